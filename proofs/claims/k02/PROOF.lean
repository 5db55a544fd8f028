import PyProof.Rows.All
import Wide.All
import OpenK.AllK
import Wide.FinOn
import HandS.ForMost
import HandS.Walk
import HandS.Wide
import HandS.WideBits
import HandS.IsInst
import HandS.Exc
import HandS.ExcOwn
import HandS.ExcInit
import HandS.Replace
import HandS.Style
import HandS.SetFor
import HandS.EndBits
import HandS.Zip
import HandS.TupSets
import HandS.HeadHook3
import HandS.NoneIn
import HandS.Conv
import KE.KExcIs
import HandS.ExcField
import HandS.ExcIs
import PyProof.Rows.CountFlat
import PyProof.LongRange
import HandS.Iter
import HandS.Dict
import KE.KDictZip
import HandS.SortInts
import HandS.MapObj
import KE.DataMinMax
import KE.KExcStr
import HandS.ExcValue
import HandS.More
import HandS.Remove
import HandS.SortRule
import HandS.FStr
import HandS.RaiseMore
import HandS.Deep
import PySem.Challenge.RW_laidround_k02_texts_of_no_spirals
set_option Elab.async false
set_option linter.all false
set_option maxRecDepth 100000
set_option maxHeartbeats 4000000
/-! L3: values without a heap, over the hand layer. -/
namespace L3
open PySem PySem.Spec L2

/-- a value of plain data; obj k: the k-th object of the abstract store -/
inductive PV where
  | non
  | bl (b : Bool)
  | int (i : Int)
  | str (x : Str)
  | tup (xs : List PV)
  | lst (xs : List PV)
  | scr (xs : List PV)
  | wtp (xs : List PV)
  | dct (ks : List Key) (vs : List PV)
  | obj (k : Nat)
  | exc (C : Addr) (fs : List Str) (vs : List PV)
  | exm (C : Addr) (m : Str)

/-- an object that may change -/
inductive MO where
  | lst (xs : List PV)
  | dK (ks : List Key) (vs : List PV)
  | dT (ks : List (List Key)) (vs : List PV)
  | ins (C : Addr) (fs : List Str) (vs : List PV)
  | dead
  | lk (o : Obj) (kvs : List (Key × V)) (xs : List PV)

abbrev Env := List (Option PV)
abbrev Mem := List MO

/-- a tuple of the written part -/
def WrT (K : PySem.W.Frag) (a : Addr) (xs : List V) : Prop := False
/-- a tuple of the written part, as a value of its own kind -/
def WtT (K : PySem.W.Frag) (a : Addr) (xs : List V) : Prop :=
  ∃ (o : Obj) (its : Array Value) (n : Nat), K.lookup a = some o ∧ o.cls = .type "tuple" ∧ o.data = .seq its n ∧ its.size ≤ sizeLine ∧ Vals xs its.toList
theorem WtT.sq {K : PySem.W.Frag} {H : Hp} {a : Addr} {xs : List V} (h : WtT K a xs) : SqT K H a xs := .inr h
/-- a list of the written part -/
def WrL (K : PySem.W.Frag) (a : Addr) (xs : List V) : Prop :=
  ∃ (o : Obj) (its : Array Value) (n : Nat), K.lookup a = some o ∧ o.cls = .type "list" ∧ o.dict = none ∧ o.data = .seq its n ∧ its.size ≤ sizeLine ∧ Vals xs its.toList
theorem WrT.sq {K : PySem.W.Frag} {H : Hp} {a : Addr} {xs : List V} (h : WrT K a xs) : SqT K H a xs := h.elim

/-- the addresses that are no data: n that are set aside, then those of the store's objects -/
structure AD where
  n : Nat
  l : List Addr
instance : HAppend AD (List Addr) AD := ⟨fun a b => ⟨a.n, a.l ++ b⟩⟩
instance : Membership Addr AD := ⟨fun a x => x ∈ a.l⟩
def AD.at (a : AD) (k : Nat) : Option Addr := a.l[a.n + k]?
theorem AD.append_nil (a : AD) : a ++ ([] : List Addr) = a := by
  show AD.mk a.n (a.l ++ []) = a
  rw [List.append_nil]
theorem AD.append_assoc (a : AD) (b c : List Addr) : a ++ b ++ c = a ++ (b ++ c) := by
  show AD.mk a.n (a.l ++ b ++ c) = AD.mk a.n (a.l ++ (b ++ c))
  rw [List.append_assoc]
theorem AD.mem_append {a : AD} {b : List Addr} {x : Addr} : x ∈ a ++ b ↔ x ∈ a ∨ x ∈ b := List.mem_append
theorem AD.at_mem {a : AD} {k : Nat} {x : Addr} (h : a.at k = some x) : x ∈ a := List.mem_of_getElem? h
theorem AD.at_lt {a : AD} {k : Nat} {x : Addr} (h : a.at k = some x) : a.n + k < a.l.length := (List.getElem?_eq_some_iff.mp h).1
theorem AD.at_append {a : AD} {b : List Addr} {k : Nat} (h : a.n + k < a.l.length) : (a ++ b).at k = a.at k := List.getElem?_append_left h
theorem AD.at_snoc {a : AD} {x : Addr} {k : Nat} (h : a.l.length = a.n + k) : (a ++ [x]).at k = some x := by
  show (a.l ++ [x])[a.n + k]? = some x
  rw [← h]
  simp
/-- an exception's object -/
def exH (a : Addr) (cls : Value) (d : Option Addr) : HO := .ext fun h => ∃ oe : Obj, h.get? a = some oe ∧ Zc cls d oe ∧ ∃ vs, oe.data = .fields vs
/-- an exception's object made by hand with one argument -/
def exT (a C t : Addr) : HO := .ext fun h => ∃ oe : Obj, h.get? a = some oe ∧ Zc (.ref C) none oe ∧ ∃ vs, oe.data = .fields vs ∧ vs[0]? = some (.ref t)
/-- an exception's own fields -/
def XdAt (ad : AD) (H : Hp) : Option Addr → List (Str × V) → Prop
  | none, kvs => kvs = []
  | some dd, kvs => H dd = some (.xd kvs) ∧ dd ∉ ad
mutual
/-- the value v is, in the heap H, the data p -/
def Rp (ad : AD) (K : PySem.W.Frag) (H : Hp) : PV → V → Prop
  | .non, v => v = .non
  | .bl b, v => v = .bl b
  | .int i, v => v = .int i
  | .str x, v => v = .str x
  | .tup xs, v => ∃ a vs, v = .ref a ∧ ((H a = some (.tup vs) ∧ a ∉ ad) ∨ WrT K a vs) ∧ RpL ad K H xs vs
  | .lst xs, v => ∃ a vs, v = .ref a ∧ (H a = some (.lst vs) ∧ a ∉ ad) ∧ RpL ad K H xs vs
  | .scr xs, v => ∃ a vs, v = .ref a ∧ (((∃ o, H a = some (.frz o (.lst vs))) ∧ a ∉ ad) ∨ WrL K a vs) ∧ RpL ad K H xs vs
  | .wtp xs, v => ∃ a vs, v = .ref a ∧ WtT K a vs ∧ RpL ad K H xs vs
  | .dct ks xs, v => ∃ a vs, v = .ref a ∧ (H a = some (.dK (ks.zip vs)) ∧ a ∉ ad) ∧ ks.length = vs.length ∧ RpL ad K H xs vs
  | .obj k, v => ∃ a, v = .ref a ∧ ad.at k = some a
  | .exc C fs xs, v => ∃ a d vs, v = .ref a ∧ (H a = some (exH a (.ref C) d) ∧ a ∉ ad) ∧ XdAt ad H d (fs.zip vs) ∧ fs.length = vs.length ∧ RpL ad K H xs vs
  | .exm C m, v => ∃ a t, v = .ref a ∧ (H a = some (exT a C t) ∧ a ∉ ad) ∧ (H t = some (.tup [.str m]) ∧ t ∉ ad)
def RpL (ad : AD) (K : PySem.W.Frag) (H : Hp) : List PV → List V → Prop
  | [], vs => vs = []
  | p :: ps, vs => ∃ v r, vs = v :: r ∧ Rp ad K H p v ∧ RpL ad K H ps r
end

def RpM (ad : AD) (K : PySem.W.Frag) (H : Hp) (a : Addr) : MO → Prop
  | .lst xs => ∃ vs, H a = some (.lst vs) ∧ RpL ad K H xs vs
  | .dK ks xs => ∃ vs, H a = some (.dK (ks.zip vs)) ∧ ks.length = vs.length ∧ RpL ad K H xs vs
  | .dT ks xs => ∃ vs, H a = some (.dT (ks.zip vs)) ∧ ks.length = vs.length ∧ RpL ad K H xs vs
  | .ins C fs xs => ∃ dx vs, H a = some (.ins C dx (fs.zip vs)) ∧ fs.length = vs.length ∧ RpL ad K H xs vs
  | .dead => ∃ o, H a = some o ∧ ∀ xs, o ≠ .tup xs
  | .lk o kvs xs => H a = some (.frz o (.dK kvs)) ∧ RpL ad K H xs (kvs.map (·.2))

/-- the store's objects -/
def AD.os (a : AD) : List Addr := a.l.drop a.n
theorem AD.not_os {a : AD} {x : Addr} (h : x ∉ a) : x ∉ a.os := fun z => h (List.mem_of_mem_drop z)
theorem AD.os_append {a : AD} {b : List Addr} {x : Addr} (h : x ∈ (a ++ b).os) : x ∈ a.os ∨ x ∈ b := by
  have h' : x ∈ (a.l ++ b).drop a.n := h
  rw [List.drop_append] at h'
  rcases List.mem_append.mp h' with z | z
  · exact .inl z
  · exact .inr (List.mem_of_mem_drop z)
theorem AD.at_os {a : AD} {k : Nat} {x : Addr} (h : a.at k = some x) : x ∈ a.os := by
  have h' : a.l[a.n + k]? = some x := h
  have : (a.l.drop a.n)[k]? = some x := by rw [List.getElem?_drop]; exact h'
  exact List.mem_of_getElem? this
/-- data stay, ad2 is new -/
structure StpW (ad : AD) (ad2 : List Addr) (H H' : Hp) : Prop where
  keep : ∀ b o, H b = some o → b ∉ ad → H' b = some o
  new : ∀ b ∈ ad2, H b = none
/-- from H to H': all that is tracked but the objects stays; ad2 is new -/
structure Stp (ad : AD) (ad2 : List Addr) (H H' : Hp) : Prop where
  keep : ∀ b o, H b = some o → b ∉ ad.os → H' b = some o
  there : ∀ b o, H b = some o → ∃ o', H' b = some o'
  new : ∀ b ∈ ad2, H b = none
theorem Stp.w {ad : AD} {ad2 : List Addr} {H H' : Hp} (s : Stp ad ad2 H H') : StpW ad ad2 H H' := ⟨fun b o h n => s.keep b o h (AD.not_os n), s.new⟩

structure Mst (ad : AD) (K : PySem.W.Frag) (H : Hp) (μ : Mem) : Prop where
  nd : ad.l.Nodup
  len : ad.l.length = ad.n + μ.length
  mem : ∀ (k : Nat) a m, ad.at k = some a → μ[k]? = some m → RpM ad K H a m
  rsv : ∀ i a, i < ad.n → ad.l[i]? = some a → ∃ o, H a = some o
  nt : ∀ a, a ∈ ad → ∀ xs, H a ≠ some (.tup xs)

structure RpE (ad : AD) (K : PySem.W.Frag) (H : Hp) (ρ : Env) (σ : St) : Prop where
  len : ρ.length = σ.length
  get : ∀ (i : Nat) p, ρ[i]? = some (some p) → ∃ v, σ[i]? = some (some v) ∧ Rp ad K H p v

structure Rst (ad : AD) (K : PySem.W.Frag) (H : Hp) (σ : St) (ρ : Env) (μ : Mem) : Prop where
  m : Mst ad K H μ
  e : RpE ad K H ρ σ

section
variable {ad : AD} {ad2 ad3 : List Addr} {K : PySem.W.Frag} {H H' H1 H2 : Hp} {σ : St} {ρ : Env} {μ μ' : Mem}
theorem Stp.refl : Stp ad [] H H := ⟨fun _ _ h _ => h, fun _ o h => ⟨o, h⟩, fun _ h => nomatch h⟩
theorem Stp.trans (a : Stp ad ad2 H H1) (b : Stp (ad ++ ad2) ad3 H1 H2) : Stp ad (ad2 ++ ad3) H H2 := by
  refine ⟨fun c o h hn => b.keep c o (a.keep c o h hn) fun hm => ?_, fun c o h => ?_, fun c hc => ?_⟩
  · rcases AD.os_append hm with z | z
    · exact hn z
    · rw [a.new c z] at h; cases h
  · obtain ⟨o1, h1⟩ := a.there c o h
    exact b.there c o1 h1
  · rcases List.mem_append.mp hc with z | z
    · exact a.new c z
    · cases q : H c with
      | none => rfl
      | some o =>
        obtain ⟨o1, h1⟩ := a.there c o q
        rw [b.new c z] at h1; cases h1
theorem Stp.one (a : Stp ad [] H H1) (b : Stp ad [] H1 H2) : Stp ad [] H H2 := by
  have b' : Stp (ad ++ ([] : List Addr)) [] H1 H2 := by rw [AD.append_nil]; exact b
  exact a.trans b'
theorem StpW.notIn (s : StpW ad ad2 H H') {a : Addr} {o : HO} (h : H a = some o) (hn : a ∉ ad) : a ∉ ad ++ ad2 := fun hm => by
  rcases AD.mem_append.mp hm with z | z
  · exact hn z
  · rw [s.new a z] at h; cases h

mutual
theorem Rp.monoW (s : StpW ad ad2 H H') : ∀ (p : PV) (v : V), Rp ad K H p v → Rp (ad ++ ad2) K H' p v
  | .non, v, h => by unfold Rp at h ⊢; exact h
  | .bl b, v, h => by unfold Rp at h ⊢; exact h
  | .int i, v, h => by unfold Rp at h ⊢; exact h
  | .str x, v, h => by unfold Rp at h ⊢; exact h
  | .tup xs, v, h => by
    unfold Rp at h ⊢
    obtain ⟨a, vs, e, h1, h2⟩ := h
    refine ⟨a, vs, e, ?_, RpL.monoW s xs vs h2⟩
    rcases h1 with ⟨x, y⟩ | x
    · exact .inl ⟨s.keep a _ x y, s.notIn x y⟩
    · exact .inr x
  | .lst xs, v, h => by
    unfold Rp at h ⊢
    obtain ⟨a, vs, e, ⟨x, y⟩, h2⟩ := h
    exact ⟨a, vs, e, ⟨s.keep a _ x y, s.notIn x y⟩, RpL.monoW s xs vs h2⟩
  | .scr xs, v, h => by
    unfold Rp at h ⊢
    obtain ⟨a, vs, e, h1, h2⟩ := h
    refine ⟨a, vs, e, ?_, RpL.monoW s xs vs h2⟩
    rcases h1 with ⟨⟨o, x⟩, y⟩ | x
    · exact .inl ⟨⟨o, s.keep a _ x y⟩, s.notIn x y⟩
    · exact .inr x
  | .wtp xs, v, h => by
    unfold Rp at h ⊢
    obtain ⟨a, vs, e, h1, h2⟩ := h
    exact ⟨a, vs, e, h1, RpL.monoW s xs vs h2⟩
  | .dct ks xs, v, h => by
    unfold Rp at h ⊢
    obtain ⟨a, vs, e, ⟨x, y⟩, hl, h2⟩ := h
    exact ⟨a, vs, e, ⟨s.keep a _ x y, s.notIn x y⟩, hl, RpL.monoW s xs vs h2⟩
  | .obj k, v, h => by
    unfold Rp at h ⊢
    obtain ⟨a, e, h1⟩ := h
    refine ⟨a, e, ?_⟩
    rw [AD.at_append (AD.at_lt h1)]; exact h1
  | .exc C fs xs, v, h => by
    unfold Rp at h ⊢
    obtain ⟨a, d, vs, e, ⟨x, y⟩, hd, hl, h2⟩ := h
    refine ⟨a, d, vs, e, ⟨s.keep a _ x y, s.notIn x y⟩, ?_, hl, RpL.monoW s xs vs h2⟩
    cases d with
    | none => exact hd
    | some dd => exact ⟨s.keep dd _ hd.1 hd.2, s.notIn hd.1 hd.2⟩
  | .exm C m, v, h => by
    unfold Rp at h ⊢
    obtain ⟨a, t, e, ⟨x, y⟩, x2, y2⟩ := h
    exact ⟨a, t, e, ⟨s.keep a _ x y, s.notIn x y⟩, s.keep t _ x2 y2, s.notIn x2 y2⟩
theorem RpL.monoW (s : StpW ad ad2 H H') : ∀ (ps : List PV) (vs : List V), RpL ad K H ps vs → RpL (ad ++ ad2) K H' ps vs
  | [], vs, h => by unfold RpL at h ⊢; exact h
  | p :: ps, vs, h => by
    unfold RpL at h ⊢
    obtain ⟨v, r, e, h1, h2⟩ := h
    exact ⟨v, r, e, Rp.monoW s p v h1, RpL.monoW s ps r h2⟩
end
theorem Stp.notIn (s : Stp ad ad2 H H') {a : Addr} {o : HO} (h : H a = some o) (hn : a ∉ ad) : a ∉ ad ++ ad2 := s.w.notIn h hn
theorem Rp.mono (s : Stp ad ad2 H H') (p : PV) (v : V) (h : Rp ad K H p v) : Rp (ad ++ ad2) K H' p v := Rp.monoW s.w p v h
theorem RpL.mono (s : Stp ad ad2 H H') (ps : List PV) (vs : List V) (h : RpL ad K H ps vs) : RpL (ad ++ ad2) K H' ps vs := RpL.monoW s.w ps vs h
theorem RpE.mono (s : Stp ad ad2 H H') (h : RpE ad K H ρ σ) : RpE (ad ++ ad2) K H' ρ σ :=
  ⟨h.len, fun i p e => let ⟨v, e1, r⟩ := h.get i p e; ⟨v, e1, r.mono s⟩⟩
theorem Rst.mono (s : Stp ad ad2 H H') (h : Rst ad K H σ ρ μ) (m : Mst (ad ++ ad2) K H' μ') : Rst (ad ++ ad2) K H' σ ρ μ' := ⟨m, h.e.mono s⟩
theorem RpL.length : ∀ {ps : List PV} {vs : List V}, RpL ad K H ps vs → ps.length = vs.length
  | [], _, h => by unfold RpL at h; subst h; rfl
  | p :: ps, _, h => by
    unfold RpL at h
    obtain ⟨v, r, e, _, h2⟩ := h
    subst e
    simp [RpL.length h2]
theorem RpL.get : ∀ {ps : List PV} {vs : List V} {i : Nat} {p : PV}, RpL ad K H ps vs → ps[i]? = some p → ∃ v, vs[i]? = some v ∧ Rp ad K H p v
  | [], _, i, p, h, e => by simp at e
  | p :: ps, vs, 0, q, h, e => by
    unfold RpL at h
    obtain ⟨v, r, e1, h1, h2⟩ := h
    subst e1
    simp at e
    subst e
    exact ⟨v, rfl, h1⟩
  | p :: ps, vs, i + 1, q, h, e => by
    unfold RpL at h
    obtain ⟨v, r, e1, h1, h2⟩ := h
    subst e1
    obtain ⟨w, e2, h3⟩ := RpL.get (i := i) h2 (by simpa using e)
    exact ⟨w, by simpa using e2, h3⟩
theorem RpL.append : ∀ {ps qs : List PV} {vs ws : List V}, RpL ad K H ps vs → RpL ad K H qs ws → RpL ad K H (ps ++ qs) (vs ++ ws)
  | [], qs, vs, ws, h, h' => by unfold RpL at h; subst h; exact h'
  | p :: ps, qs, vs, ws, h, h' => by
    unfold RpL at h
    obtain ⟨v, r, e1, h1, h2⟩ := h
    subst e1
    show RpL ad K H (p :: (ps ++ qs)) (v :: (r ++ ws))
    unfold RpL
    exact ⟨v, r ++ ws, rfl, h1, RpL.append h2 h'⟩
theorem RpL.take : ∀ {ps : List PV} {vs : List V} (n : Nat), RpL ad K H ps vs → RpL ad K H (ps.take n) (vs.take n)
  | _, _, 0, _ => by simp [RpL]
  | [], vs, n + 1, h => by unfold RpL at h; subst h; simp [RpL]
  | p :: ps, vs, n + 1, h => by
    unfold RpL at h
    obtain ⟨v, r, e1, h1, h2⟩ := h
    subst e1
    show RpL ad K H (p :: ps.take n) (v :: r.take n)
    unfold RpL
    exact ⟨v, _, rfl, h1, RpL.take n h2⟩
theorem RpL.drop : ∀ {ps : List PV} {vs : List V} (n : Nat), RpL ad K H ps vs → RpL ad K H (ps.drop n) (vs.drop n)
  | _, _, 0, h => h
  | [], vs, n + 1, h => by unfold RpL at h; subst h; simp [RpL]
  | p :: ps, vs, n + 1, h => by
    unfold RpL at h
    obtain ⟨v, r, e1, h1, h2⟩ := h
    subst e1
    exact RpL.drop n h2
theorem RpL.set : ∀ {ps : List PV} {vs : List V} {p : PV} {v : V} (i : Nat), RpL ad K H ps vs → Rp ad K H p v → RpL ad K H (ps.set i p) (vs.set i v)
  | [], vs, _, _, i, h, _ => by unfold RpL at h; subst h; simp [RpL]
  | q :: ps, vs, p, v, 0, h, hv => by
    unfold RpL at h
    obtain ⟨v', r, e1, h1, h2⟩ := h
    subst e1
    show RpL ad K H (p :: ps) (v :: r)
    unfold RpL
    exact ⟨v, r, rfl, hv, h2⟩
  | q :: ps, vs, p, v, i + 1, h, hv => by
    unfold RpL at h
    obtain ⟨v', r, e1, h1, h2⟩ := h
    subst e1
    show RpL ad K H (q :: ps.set i p) (v' :: r.set i v)
    unfold RpL
    exact ⟨v', _, rfl, h1, RpL.set i h2 hv⟩
theorem RpL.cons {p : PV} {v : V} {ps : List PV} {vs : List V} (h : Rp ad K H p v) (t : RpL ad K H ps vs) : RpL ad K H (p :: ps) (v :: vs) := by
  unfold RpL; exact ⟨v, vs, rfl, h, t⟩
theorem RpL.nil : RpL ad K H [] [] := by unfold RpL; rfl
theorem RpL.cut {ps : List PV} {vs : List V} (lo hi : Option Int) (h : RpL ad K H ps vs) : RpL ad K H ((ps.drop (HT.sIx ps.length 0 lo)).take (HT.sIx ps.length ps.length hi - HT.sIx ps.length 0 lo)) (cutV vs lo hi) := by
  unfold cutV
  rw [← h.length]
  exact (h.drop _).take _
theorem RpE.set {p : PV} {v : V} (i : Nat) (h : RpE ad K H ρ σ) (r : Rp ad K H p v) : RpE ad K H (ρ.set i (some p)) (σ.set i (some v)) := by
  refine ⟨by simp [h.len], fun j q e => ?_⟩
  rw [List.getElem?_set] at e ⊢
  by_cases hij : i = j
  · subst hij
    have hl := h.len
    by_cases hi : i < ρ.length
    · rw [if_pos rfl, if_pos hi] at e
      rw [if_pos rfl, if_pos (by omega)]
      cases e
      exact ⟨v, rfl, r⟩
    · rw [if_pos rfl, if_neg hi] at e
      cases e
  · rw [if_neg hij] at e ⊢
    exact h.get j q e
/-- forgetting slots -/
theorem RpE.weak {ρ' : Env} (h : RpE ad K H ρ σ) (hl : ρ'.length = ρ.length) (w : ∀ (i : Nat) p, ρ'[i]? = some (some p) → ρ[i]? = some (some p)) : RpE ad K H ρ' σ :=
  ⟨hl.trans h.len, fun i p e => h.get i p (w i p e)⟩
theorem RpL.nil0 {ps : List PV} {vs : List V} (r : RpL (ad ++ ([] : List Addr)) K H ps vs) : RpL ad K H ps vs := by rwa [AD.append_nil] at r
theorem Rp.nil0 {p : PV} {v : V} (r : Rp (ad ++ ([] : List Addr)) K H p v) : Rp ad K H p v := by rwa [AD.append_nil] at r
theorem Mst.nil0 (r : Mst (ad ++ ([] : List Addr)) K H μ) : Mst ad K H μ := by rwa [AD.append_nil] at r
/-- an object's description elsewhere: its place and its items tell it -/
theorem RpM.of {ad' : AD} {a : Addr} {m : MO} (hH : H' a = H a) (mo : ∀ ps vs, RpL ad K H ps vs → RpL ad' K H' ps vs) (q : RpM ad K H a m) : RpM ad' K H' a m := by
  cases m with
  | lst xs => obtain ⟨vs, e, r⟩ := q; exact ⟨vs, hH.trans e, mo _ _ r⟩
  | dK ks xs => obtain ⟨vs, e, l, r⟩ := q; exact ⟨vs, hH.trans e, l, mo _ _ r⟩
  | dT ks xs => obtain ⟨vs, e, l, r⟩ := q; exact ⟨vs, hH.trans e, l, mo _ _ r⟩
  | ins C fs xs => obtain ⟨dx, vs, e, l, r⟩ := q; exact ⟨dx, vs, hH.trans e, l, mo _ _ r⟩
  | dead => obtain ⟨u, e, n⟩ := q; exact ⟨u, hH.trans e, n⟩
  | lk o kvs xs => obtain ⟨e, r⟩ := q; exact ⟨hH.trans e, mo _ _ r⟩
theorem RpM.tracked {a : Addr} {m : MO} (q : RpM ad K H a m) : ∃ o, H a = some o := by
  cases m with
  | lst xs => obtain ⟨vs, e, r⟩ := q; exact ⟨_, e⟩
  | dK ks xs => obtain ⟨vs, e, l, r⟩ := q; exact ⟨_, e⟩
  | dT ks xs => obtain ⟨vs, e, l, r⟩ := q; exact ⟨_, e⟩
  | ins C fs xs => obtain ⟨dx, vs, e, l, r⟩ := q; exact ⟨_, e⟩
  | dead => obtain ⟨u, e, n⟩ := q; exact ⟨u, e⟩
  | lk o kvs xs => obtain ⟨e, r⟩ := q; exact ⟨_, e⟩
theorem RpM.nt {a : Addr} {m : MO} (q : RpM ad K H a m) (xs : List V) : H a ≠ some (.tup xs) := fun z => by
  cases m with
  | lst ys => obtain ⟨vs, e, r⟩ := q; rw [e] at z; cases z
  | dK ks ys => obtain ⟨vs, e, l, r⟩ := q; rw [e] at z; cases z
  | dT ks ys => obtain ⟨vs, e, l, r⟩ := q; rw [e] at z; cases z
  | ins C fs ys => obtain ⟨dx, vs, e, l, r⟩ := q; rw [e] at z; cases z
  | dead =>
    obtain ⟨u, e, n⟩ := q
    rw [e] at z
    exact n xs (Option.some.inj z)
  | lk o kvs ys => obtain ⟨e, r⟩ := q; rw [e] at z; cases z
theorem Mst.mono0 (s : Stp ad [] H H') (h : ∀ a ∈ ad, H' a = H a) (m : Mst ad K H μ) : Mst ad K H' μ :=
  ⟨m.nd, m.len, fun k a o e1 e2 => (m.mem k a o e1 e2).of (h a (AD.at_mem e1)) fun ps vs r => (RpL.mono (K := K) s ps vs r).nil0,
    fun i a hi e => by
      obtain ⟨o, ho⟩ := m.rsv i a hi e
      exact ⟨o, (h a (List.mem_of_getElem? e)).trans ho⟩,
    fun a ha xs => by rw [h a ha]; exact m.nt a ha xs⟩
theorem Mst.tracked (m : Mst ad K H μ) {a : Addr} (h : a ∈ ad) : ∃ o, H a = some o := by
  obtain ⟨i, hi, e⟩ := List.mem_iff_getElem.mp h
  have e1 : ad.l[i]? = some a := by rw [← e]; simp [hi]
  by_cases hn : i < ad.n
  · exact m.rsv i a hn e1
  · obtain ⟨k, rfl⟩ : ∃ k, i = ad.n + k := ⟨i - ad.n, by omega⟩
    have hm : k < μ.length := by have := m.len; omega
    have e2 : μ[k]? = some μ[k] := by simp [hm]
    exact (m.mem k a _ e1 e2).tracked
/-- a new object of plain data -/
theorem Stp.data {p : Addr} {o : HO} (hp : H p = none) : Stp ad [] H (upd H p o) := by
  refine ⟨fun b u h _ => ?_, fun b u h => ?_, fun _ h => nomatch h⟩
  · rw [upd_ne (ne_of_none h hp)]; exact h
  · exact ⟨u, by rw [upd_ne (ne_of_none h hp)]; exact h⟩
theorem Stp.fresh {p : Addr} {o : HO} (hp : H p = none) : Stp ad [p] H (upd H p o) := by
  refine ⟨fun b u h _ => ?_, fun b u h => ?_, fun b h => ?_⟩
  · rw [upd_ne (ne_of_none h hp)]; exact h
  · exact ⟨u, by rw [upd_ne (ne_of_none h hp)]; exact h⟩
  · rw [List.mem_singleton.mp h]; exact hp
theorem Mst.data {p : Addr} {o : HO} (hp : H p = none) (m : Mst ad K H μ) : Mst ad K (upd H p o) μ := by
  refine m.mono0 (Stp.data hp) fun a ha => ?_
  obtain ⟨u, hu⟩ := m.tracked ha
  exact upd_ne (ne_of_none hu hp)
theorem Mst.notIn {p : Addr} (hp : H p = none) (m : Mst ad K H μ) : p ∉ ad := fun h => by
  obtain ⟨u, hu⟩ := m.tracked h
  rw [hp] at hu; cases hu
/-- an object, or what is set aside, is written -/
theorem StpW.write {a : Addr} {o : HO} (ha : a ∈ ad) : StpW ad [] H (upd H a o) := by
  refine ⟨fun b u h hn => ?_, fun _ h => nomatch h⟩
  have hb : b ≠ a := fun e => hn (e ▸ ha)
  rw [upd_ne hb]; exact h
theorem Stp.write {k : Nat} {a : Addr} {o : HO} (hk : ad.at k = some a) : Stp ad [] H (upd H a o) := by
  refine ⟨fun b u h hn => ?_, fun b u h => ?_, fun _ h => nomatch h⟩
  · have hb : b ≠ a := fun e => hn (e ▸ AD.at_os hk)
    rw [upd_ne hb]; exact h
  · by_cases hb : b = a
    · subst hb; exact ⟨o, upd_same⟩
    · exact ⟨u, by rw [upd_ne hb]; exact h⟩
theorem RpL.wr' {a : Addr} {o : HO} (ha : a ∈ ad) {ps : List PV} {vs : List V} (r : RpL ad K H ps vs) : RpL ad K (upd H a o) ps vs := (RpL.monoW (K := K) (StpW.write (H := H) (o := o) ha) ps vs r).nil0
theorem RpL.wr {a : Addr} {o : HO} {k : Nat} (hk : ad.at k = some a) {ps : List PV} {vs : List V} (r : RpL ad K H ps vs) : RpL ad K (upd H a o) ps vs := r.wr' (AD.at_mem hk)
theorem Rp.wr' {a : Addr} {o : HO} (ha : a ∈ ad) {p : PV} {v : V} (r : Rp ad K H p v) : Rp ad K (upd H a o) p v := (Rp.monoW (K := K) (StpW.write (H := H) (o := o) ha) p v r).nil0
theorem Rp.wr {a : Addr} {o : HO} {k : Nat} (hk : ad.at k = some a) {p : PV} {v : V} (r : Rp ad K H p v) : Rp ad K (upd H a o) p v := r.wr' (AD.at_mem hk)
theorem Mst.ne (M : Mst ad K H μ) {i j : Nat} {a b : Addr} (hi : ad.l[i]? = some a) (hj : ad.l[j]? = some b) (h : i ≠ j) : b ≠ a := fun e => by
  subst e
  obtain ⟨h1, e1⟩ := List.getElem?_eq_some_iff.mp hi
  obtain ⟨h2, e2⟩ := List.getElem?_eq_some_iff.mp hj
  exact h ((List.getElem_inj M.nd).mp (e1.trans e2.symm))
theorem Mst.write {k : Nat} {a : Addr} {o : HO} {m : MO} (M : Mst ad K H μ) (hk : ad.at k = some a) (new : RpM ad K (upd H a o) a m) : Mst ad K (upd H a o) (μ.set k m) := by
  refine ⟨M.nd, by simp [M.len], fun j b u e1 e2 => ?_, fun i b hi e => ?_, fun b hb xs => ?_⟩
  · rw [List.getElem?_set] at e2
    by_cases hj : k = j
    · subst hj
      rw [hk] at e1
      cases e1
      have hl : k < μ.length := by have h1 := M.len; have h2 := AD.at_lt hk; omega
      rw [if_pos rfl, if_pos hl] at e2
      cases e2
      exact new
    · rw [if_neg hj] at e2
      have hb : b ≠ a := M.ne hk e1 (by omega)
      exact (M.mem j b u e1 e2).of (upd_ne hb) fun ps vs r => r.wr hk
  · obtain ⟨u, hu⟩ := M.rsv i b hi e
    have hb : b ≠ a := M.ne hk e (by omega)
    exact ⟨u, by rw [upd_ne hb]; exact hu⟩
  · by_cases e : b = a
    · rw [e]; exact new.nt xs
    · rw [upd_ne e]; exact M.nt b hb xs
/-- what is set aside is written -/
theorem Mst.writeR {i : Nat} {a : Addr} {o : HO} (M : Mst ad K H μ) (hi : i < ad.n) (hk : ad.l[i]? = some a) (ho : ∀ xs, o ≠ .tup xs) : Mst ad K (upd H a o) μ := by
  have ha : a ∈ ad := List.mem_of_getElem? hk
  refine ⟨M.nd, M.len, fun j b u e1 e2 => ?_, fun j b hj e => ?_, fun b hb xs => ?_⟩
  · have hb : b ≠ a := M.ne hk e1 (by omega)
    exact (M.mem j b u e1 e2).of (upd_ne hb) fun ps vs r => r.wr' ha
  · by_cases hb : b = a
    · subst hb; exact ⟨o, upd_same⟩
    · obtain ⟨u, hu⟩ := M.rsv j b hj e
      exact ⟨u, by rw [upd_ne hb]; exact hu⟩
  · by_cases e : b = a
    · rw [e, upd_same]; exact fun z => ho xs (Option.some.inj z)
    · rw [upd_ne e]; exact M.nt b hb xs
/-- a new object of the store -/
theorem Mst.push {p : Addr} {o : HO} {m : MO} (M : Mst ad K H μ) (hp : H p = none) (new : RpM (ad ++ [p]) K (upd H p o) p m) : Mst (ad ++ [p]) K (upd H p o) (μ ++ [m]) := by
  have hn := M.notIn hp
  have hl := M.len
  refine ⟨?_, ?_, fun j b u e1 e2 => ?_, fun i b hi e => ?_, fun b hb xs => ?_⟩
  · show (ad.l ++ [p]).Nodup
    rw [List.nodup_append]
    exact ⟨M.nd, by simp, fun x hx y hy e => by rw [List.mem_singleton] at hy; subst hy; subst e; exact hn hx⟩
  · show (ad.l ++ [p]).length = ad.n + (μ ++ [m]).length
    simp
    omega
  · by_cases hj : ad.n + j < ad.l.length
    · rw [AD.at_append hj] at e1
      rw [List.getElem?_append_left (by omega)] at e2
      have hb : b ≠ p := fun e => hn (e ▸ AD.at_mem e1)
      exact (M.mem j b u e1 e2).of (upd_ne hb) fun ps vs r => RpL.mono (K := K) (Stp.fresh hp) ps vs r
    · have hj2 : j = μ.length := by
        have : ad.n + j < (ad.l ++ [p]).length := AD.at_lt e1
        simp at this
        omega
      subst hj2
      rw [AD.at_snoc hl] at e1
      simp at e2
      cases e1
      subst e2
      exact new
  · have e' : ad.l[i]? = some b := by
      have h1 : i < ad.l.length := by
        have : i < ad.n := hi
        omega
      have e2 : (ad.l ++ [p])[i]? = some b := e
      rwa [List.getElem?_append_left h1] at e2
    obtain ⟨u, hu⟩ := M.rsv i b hi e'
    exact ⟨u, by rw [upd_ne (ne_of_none hu hp)]; exact hu⟩
  · by_cases e : b = p
    · rw [e]; exact new.nt xs
    · rw [upd_ne e]
      rcases AD.mem_append.mp hb with z | z
      · exact M.nt b z xs
      · exact absurd (List.mem_singleton.mp z) e

/-! ### an address set aside -/
def AD.aside (a : AD) (x : Addr) : AD := ⟨a.n + 1, x :: a.l⟩
theorem AD.aside_at {a : AD} {x : Addr} {k : Nat} : (a.aside x).at k = a.at k := by
  show (x :: a.l)[a.n + 1 + k]? = a.l[a.n + k]?
  rw [show a.n + 1 + k = (a.n + k) + 1 by omega]
  rfl
theorem AD.aside_app {a : AD} {x : Addr} {b : List Addr} : a.aside x ++ b = (a ++ b).aside x := rfl
theorem AD.aside_mem {a : AD} {x y : Addr} : y ∈ a.aside x ↔ y = x ∨ y ∈ a := List.mem_cons
mutual
/-- data avoid what is set aside -/
theorem Rp.aside {l : Addr} {o : HO} (hl : H l = none) : ∀ (p : PV) (v : V), Rp ad K H p v → Rp (ad.aside l) K (upd H l o) p v
  | .non, v, h => by unfold Rp at h ⊢; exact h
  | .bl b, v, h => by unfold Rp at h ⊢; exact h
  | .int i, v, h => by unfold Rp at h ⊢; exact h
  | .str x, v, h => by unfold Rp at h ⊢; exact h
  | .tup xs, v, h => by
    unfold Rp at h ⊢
    obtain ⟨a, vs, e, h1, h2⟩ := h
    refine ⟨a, vs, e, ?_, RpL.aside hl xs vs h2⟩
    rcases h1 with ⟨x, y⟩ | x
    · have ne := ne_of_none x hl
      exact .inl ⟨by rw [upd_ne ne]; exact x, fun z => (AD.aside_mem.mp z).elim ne y⟩
    · exact .inr x
  | .lst xs, v, h => by
    unfold Rp at h ⊢
    obtain ⟨a, vs, e, ⟨x, y⟩, h2⟩ := h
    have ne := ne_of_none x hl
    exact ⟨a, vs, e, ⟨by rw [upd_ne ne]; exact x, fun z => (AD.aside_mem.mp z).elim ne y⟩, RpL.aside hl xs vs h2⟩
  | .scr xs, v, h => by
    unfold Rp at h ⊢
    obtain ⟨a, vs, e, h1, h2⟩ := h
    refine ⟨a, vs, e, ?_, RpL.aside hl xs vs h2⟩
    rcases h1 with ⟨⟨o, x⟩, y⟩ | x
    · have ne := ne_of_none x hl
      exact .inl ⟨⟨o, by rw [upd_ne ne]; exact x⟩, fun z => (AD.aside_mem.mp z).elim ne y⟩
    · exact .inr x
  | .wtp xs, v, h => by
    unfold Rp at h ⊢
    obtain ⟨a, vs, e, h1, h2⟩ := h
    exact ⟨a, vs, e, h1, RpL.aside hl xs vs h2⟩
  | .dct ks xs, v, h => by
    unfold Rp at h ⊢
    obtain ⟨a, vs, e, ⟨x, y⟩, hln, h2⟩ := h
    have ne := ne_of_none x hl
    exact ⟨a, vs, e, ⟨by rw [upd_ne ne]; exact x, fun z => (AD.aside_mem.mp z).elim ne y⟩, hln, RpL.aside hl xs vs h2⟩
  | .obj k, v, h => by
    unfold Rp at h ⊢
    obtain ⟨a, e, h1⟩ := h
    exact ⟨a, e, AD.aside_at.trans h1⟩
  | .exc C fs xs, v, h => by
    unfold Rp at h ⊢
    obtain ⟨a, d, vs, e, ⟨x, y⟩, hd, hln, h2⟩ := h
    have ne := ne_of_none x hl
    refine ⟨a, d, vs, e, ⟨by rw [upd_ne ne]; exact x, fun z => (AD.aside_mem.mp z).elim ne y⟩, ?_, hln, RpL.aside hl xs vs h2⟩
    cases d with
    | none => exact hd
    | some dd =>
      have ne2 := ne_of_none hd.1 hl
      exact ⟨by rw [upd_ne ne2]; exact hd.1, fun z => (AD.aside_mem.mp z).elim ne2 hd.2⟩
  | .exm C m, v, h => by
    unfold Rp at h ⊢
    obtain ⟨a, t, e, ⟨x, y⟩, x2, y2⟩ := h
    have ne := ne_of_none x hl
    have ne2 := ne_of_none x2 hl
    exact ⟨a, t, e, ⟨by rw [upd_ne ne]; exact x, fun z => (AD.aside_mem.mp z).elim ne y⟩, by rw [upd_ne ne2]; exact x2, fun z => (AD.aside_mem.mp z).elim ne2 y2⟩
theorem RpL.aside {l : Addr} {o : HO} (hl : H l = none) : ∀ (ps : List PV) (vs : List V), RpL ad K H ps vs → RpL (ad.aside l) K (upd H l o) ps vs
  | [], vs, h => by unfold RpL at h ⊢; exact h
  | p :: ps, vs, h => by
    unfold RpL at h ⊢
    obtain ⟨v, r, e, h1, h2⟩ := h
    exact ⟨v, r, e, Rp.aside hl p v h1, RpL.aside hl ps r h2⟩
end
mutual
theorem Rp.back {l : Addr} : ∀ (p : PV) (v : V), Rp (ad.aside l) K H p v → Rp ad K H p v
  | .non, v, h => by unfold Rp at h ⊢; exact h
  | .bl b, v, h => by unfold Rp at h ⊢; exact h
  | .int i, v, h => by unfold Rp at h ⊢; exact h
  | .str x, v, h => by unfold Rp at h ⊢; exact h
  | .tup xs, v, h => by
    unfold Rp at h ⊢
    obtain ⟨a, vs, e, h1, h2⟩ := h
    refine ⟨a, vs, e, ?_, RpL.back xs vs h2⟩
    rcases h1 with ⟨x, y⟩ | x
    · exact .inl ⟨x, fun z => y (AD.aside_mem.mpr (.inr z))⟩
    · exact .inr x
  | .lst xs, v, h => by
    unfold Rp at h ⊢
    obtain ⟨a, vs, e, ⟨x, y⟩, h2⟩ := h
    exact ⟨a, vs, e, ⟨x, fun z => y (AD.aside_mem.mpr (.inr z))⟩, RpL.back xs vs h2⟩
  | .scr xs, v, h => by
    unfold Rp at h ⊢
    obtain ⟨a, vs, e, h1, h2⟩ := h
    refine ⟨a, vs, e, ?_, RpL.back xs vs h2⟩
    rcases h1 with ⟨x, y⟩ | x
    · exact .inl ⟨x, fun z => y (AD.aside_mem.mpr (.inr z))⟩
    · exact .inr x
  | .wtp xs, v, h => by
    unfold Rp at h ⊢
    obtain ⟨a, vs, e, h1, h2⟩ := h
    exact ⟨a, vs, e, h1, RpL.back xs vs h2⟩
  | .dct ks xs, v, h => by
    unfold Rp at h ⊢
    obtain ⟨a, vs, e, ⟨x, y⟩, hln, h2⟩ := h
    exact ⟨a, vs, e, ⟨x, fun z => y (AD.aside_mem.mpr (.inr z))⟩, hln, RpL.back xs vs h2⟩
  | .obj k, v, h => by
    unfold Rp at h ⊢
    obtain ⟨a, e, h1⟩ := h
    exact ⟨a, e, AD.aside_at.symm.trans h1⟩
  | .exc C fs xs, v, h => by
    unfold Rp at h ⊢
    obtain ⟨a, d, vs, e, ⟨x, y⟩, hd, hln, h2⟩ := h
    refine ⟨a, d, vs, e, ⟨x, fun z => y (AD.aside_mem.mpr (.inr z))⟩, ?_, hln, RpL.back xs vs h2⟩
    cases d with
    | none => exact hd
    | some dd => exact ⟨hd.1, fun z => hd.2 (AD.aside_mem.mpr (.inr z))⟩
  | .exm C m, v, h => by
    unfold Rp at h ⊢
    obtain ⟨a, t, e, ⟨x, y⟩, x2, y2⟩ := h
    exact ⟨a, t, e, ⟨x, fun z => y (AD.aside_mem.mpr (.inr z))⟩, x2, fun z => y2 (AD.aside_mem.mpr (.inr z))⟩
theorem RpL.back {l : Addr} : ∀ (ps : List PV) (vs : List V), RpL (ad.aside l) K H ps vs → RpL ad K H ps vs
  | [], vs, h => by unfold RpL at h ⊢; exact h
  | p :: ps, vs, h => by
    unfold RpL at h ⊢
    obtain ⟨v, r, e, h1, h2⟩ := h
    exact ⟨v, r, e, Rp.back p v h1, RpL.back ps r h2⟩
end
theorem Mst.aside {l : Addr} {o : HO} (M : Mst ad K H μ) (hl : H l = none) (ho : ∀ xs, o ≠ .tup xs := by intro _ z; cases z) : Mst (ad.aside l) K (upd H l o) μ := by
  have hn := M.notIn hl
  refine ⟨?_, ?_, fun j b u e1 e2 => ?_, fun i b hi e => ?_, fun b hb xs => ?_⟩
  · show (l :: ad.l).Nodup
    exact List.nodup_cons.mpr ⟨hn, M.nd⟩
  · show (l :: ad.l).length = ad.n + 1 + μ.length
    have := M.len
    simp
    omega
  · rw [AD.aside_at] at e1
    have hb : b ≠ l := fun e => hn (e ▸ AD.at_mem e1)
    exact (M.mem j b u e1 e2).of (upd_ne hb) fun ps vs r => r.aside hl
  · match i, e with
    | 0, e =>
      have e' : l = b := by simpa [AD.aside] using e
      subst e'
      exact ⟨o, upd_same⟩
    | i + 1, e =>
      have e' : ad.l[i]? = some b := by simpa [AD.aside] using e
      have hi' : i + 1 < ad.n + 1 := hi
      obtain ⟨u, hu⟩ := M.rsv i b (by omega) e'
      exact ⟨u, by rw [upd_ne (ne_of_none hu hl)]; exact hu⟩
  · by_cases e : b = l
    · rw [e, upd_same]; exact fun z => ho xs (Option.some.inj z)
    · rw [upd_ne e]
      rcases AD.aside_mem.mp hb with z | z
      · exact absurd z e
      · exact M.nt b z xs
theorem Mst.back {l : Addr} (M : Mst (ad.aside l) K H μ) : Mst ad K H μ := by
  refine ⟨(List.nodup_cons.mp M.nd).2, ?_, fun j b u e1 e2 => ?_, fun i b hi e => ?_, fun b hb xs => M.nt b (AD.aside_mem.mpr (.inr hb)) xs⟩
  · have h : (l :: ad.l).length = ad.n + 1 + μ.length := M.len
    simp at h
    omega
  · exact (M.mem j b u (AD.aside_at.trans e1) e2).of rfl fun ps vs r => r.back
  · exact M.rsv (i + 1) b (show i + 1 < ad.n + 1 by omega) (by simpa [AD.aside] using e)
theorem Mst.asideW {l : Addr} {o : HO} (M : Mst (ad.aside l) K H μ) (ho : ∀ xs, o ≠ .tup xs := by intro _ z; cases z) : Mst (ad.aside l) K (upd H l o) μ := M.writeR (i := 0) (show 0 < ad.n + 1 by omega) rfl ho
theorem RpL.asideW {l : Addr} {o : HO} {ps : List PV} {vs : List V} (r : RpL (ad.aside l) K H ps vs) : RpL (ad.aside l) K (upd H l o) ps vs := r.wr' (AD.aside_mem.mpr (.inl rfl))
theorem RpE.aside {l : Addr} {o : HO} (hl : H l = none) (h : RpE ad K H ρ σ) : RpE (ad.aside l) K (upd H l o) ρ σ :=
  ⟨h.len, fun i p e => let ⟨v, e1, r⟩ := h.get i p e; ⟨v, e1, r.aside hl⟩⟩
theorem Rst.aside {l : Addr} {o : HO} (hl : H l = none) (h : Rst ad K H σ ρ μ) (ho : ∀ xs, o ≠ .tup xs := by intro _ z; cases z) : Rst (ad.aside l) K (upd H l o) σ ρ μ := ⟨h.m.aside hl ho, h.e.aside hl⟩
/-- from H on, where l was new, and stands at the end as o' -/
theorem Stp.aside {l : Addr} {o o' : HO} (hl : H l = none) (s : Stp (ad.aside l) ad2 (upd H l o) H2) : Stp ad ad2 H (upd H2 l o') := by
  refine ⟨fun c u hc hn => ?_, fun c u hc => ?_, fun c hc => ?_⟩
  · have ne : c ≠ l := ne_of_none hc hl
    rw [upd_ne ne]
    exact s.keep c u (by rw [upd_ne ne]; exact hc) hn
  · have ne : c ≠ l := ne_of_none hc hl
    obtain ⟨u', hu'⟩ := s.there c u (by rw [upd_ne ne]; exact hc)
    exact ⟨u', by rw [upd_ne ne]; exact hu'⟩
  · have := s.new c hc
    by_cases hcl : c = l
    · subst hcl; exact hl
    · rwa [upd_ne hcl] at this
/-- what is set aside is not touched -/
theorem Stp.asideK {l : Addr} {o : HO} (s : Stp (ad.aside l) ad2 H H') (M : Mst (ad.aside l) K H μ) (h : H l = some o) : H' l = some o :=
  s.keep l o h fun z => (List.nodup_cons.mp M.nd).1 (List.mem_of_mem_drop (show l ∈ ad.l.drop ad.n from z))
theorem RpE.asideW {l : Addr} {o : HO} (h : RpE (ad.aside l) K H ρ σ) : RpE (ad.aside l) K (upd H l o) ρ σ :=
  ⟨h.len, fun i p e => let ⟨v, e1, r⟩ := h.get i p e; ⟨v, e1, r.wr' (AD.aside_mem.mpr (.inl rfl))⟩⟩
/-- data stay data -/
def Keep (K : PySem.W.Frag) (ad : AD) (H : Hp) (ad' : AD) (H' : Hp) : Prop := ∀ p v, Rp ad K H p v → Rp ad' K H' p v
theorem Keep.all {ad' : AD} (h : Keep K ad H ad' H') : ∀ (ps : List PV) (vs : List V), RpL ad K H ps vs → RpL ad' K H' ps vs
  | [], vs, r => by unfold RpL at r ⊢; exact r
  | p :: ps, vs, r => by
    unfold RpL at r ⊢
    obtain ⟨v, w, e, r1, r2⟩ := r
    exact ⟨v, w, e, h p v r1, Keep.all h ps w r2⟩
theorem Stp.kept (s : Stp ad ad2 H H') : Keep K ad H (ad ++ ad2) H' := fun p v r => r.mono s
theorem Keep.aside {ad' : AD} {l : Addr} {o : HO} (h : Keep K ad H ad' H') (hl : H' l = none) : Keep K ad H (ad'.aside l) (upd H' l o) := fun p v r => (h p v r).aside hl
theorem Keep.trans {ad' ad'' : AD} (h : Keep K ad H ad' H1) (h' : Keep K ad' H1 ad'' H2) : Keep K ad H ad'' H2 := fun p v r => h' p v (h p v r)
theorem Keep.asideW {ad' : AD} {l : Addr} {o : HO} (h : Keep K ad H (ad'.aside l) H') : Keep K ad H (ad'.aside l) (upd H' l o) := fun p v r => (h p v r).wr' (AD.aside_mem.mpr (.inl rfl))
end
end L3

namespace L3
open PySem PySem.Spec L2

/-! ### the weakest readings -/
structure SwE (X : Cx) (e : Expr) (σ : St) (H : Hp) (Q : VK) : Prop where
  go : ∀ pins s, Inv X pins σ H s → wpAny (model X.prog X.w) X.A (eval e X.env) (EP X pins σ Q) X.xe s
def wE (X : Cx) (e : Expr) : TE := fun σ H Q => SwE X e σ H Q
structure SwT (X : Cx) (e : Expr) (σ : St) (H : Hp) (Q : Bool → Hp → Prop) : Prop where
  go : ∀ pins s, Inv X pins σ H s → wpAny (model X.prog X.w) X.A (isTrue e X.env (eval e X.env)) (TP X pins σ Q) X.xe s
def wT (X : Cx) (e : Expr) : TT := fun σ H Q => SwT X e σ H Q
structure SwW (X : Cx) (e : Expr) (σ : St) (H : Hp) (Q : Bool → Hp → Prop) : Prop where
  go : ∀ whole pins s, Inv X pins σ H s → wpAny (model X.prog X.w) X.A (isTrue e X.env whole) (TP X pins σ Q) X.xe s
def wW (X : Cx) (e : Expr) : TT := fun σ H Q => SwW X e σ H Q
structure SwA (X : Cx) (es : List Expr) (σ : St) (H : Hp) (Q : List V → Hp → Prop) : Prop where
  go : ∀ pos pins s, Inv X pins σ H s → wpAny (model X.prog X.w) X.A (spliced (backTo pos (starEach es X.env))) (AP X pins σ Q) X.xe s
def wA (X : Cx) (es : List Expr) : TA := fun σ H Q => SwA X es σ H Q
structure SwS (X : Cx) (st : Stmt) (D : Ends) (σ : St) (H : Hp) : Prop where
  go : ∀ pins s, Inv X pins σ H s → wpAny (model X.prog X.w) X.A (exec st X.env) (SP X pins D) X.xe s
def wS (X : Cx) (st : Stmt) : TS := fun D σ H => SwS X st D σ H
structure SwSs (X : Cx) (st : List Stmt) (D : Ends) (σ : St) (H : Hp) : Prop where
  go : ∀ pins s, Inv X pins σ H s → wpAny (model X.prog X.w) X.A (execs st X.env) (SP X pins D) X.xe s
def wSs (X : Cx) (st : List Stmt) : TS := fun D σ H => SwSs X st D σ H
structure SwG (X : Cx) (tg : Expr) (v : V) (σ : St) (H : Hp) (Q : St → Hp → Prop) : Prop where
  go : ∀ pins s u, Inv X pins σ H s → RelV v u → wpAny (model X.prog X.w) X.A (assign tg X.env u) (fun _ s' => ∃ σ' H', Inv X pins σ' H' s' ∧ Q σ' H') X.xe s
def wG (X : Cx) (tg : Expr) : TG := fun v σ H Q => SwG X tg v σ H Q
section
variable {X : Cx}
theorem pe_w (e : Expr) : PE X e (wE X e) := ⟨fun pins s _ _ _ I h => h.go pins s I⟩
theorem pt_w (e : Expr) : PT X e (wT X e) := ⟨fun pins s _ _ _ I h => h.go pins s I⟩
theorem pw_w (e : Expr) : PW X e (wW X e) := ⟨fun whole pins s _ _ _ I h => h.go whole pins s I⟩
theorem pa_w (es : List Expr) : PA X es (wA X es) := ⟨fun pos pins s _ _ _ I h => h.go pos pins s I⟩
theorem ps_w (st : Stmt) : PS X st (wS X st) := ⟨fun pins s _ _ _ I h => h.go pins s I⟩
theorem pss_w (st : List Stmt) : PSs X st (wSs X st) := ⟨fun pins s _ _ _ I h => h.go pins s I⟩
theorem pg_w (tg : Expr) : PG X tg (wG X tg) := ⟨fun pins s _ _ _ u _ I r h => h.go pins s u I r⟩
theorem wE.of {e : Expr} {t : TE} {σ : St} {H : Hp} {Q : VK} (h : PE X e t) (q : t σ H Q) : wE X e σ H Q := ⟨fun pins s I => h.run pins s σ H Q I q⟩
theorem wT.of {e : Expr} {t : TT} {σ : St} {H : Hp} {Q : Bool → Hp → Prop} (h : PT X e t) (q : t σ H Q) : wT X e σ H Q := ⟨fun pins s I => h.run pins s σ H Q I q⟩
theorem wW.of {e : Expr} {t : TT} {σ : St} {H : Hp} {Q : Bool → Hp → Prop} (h : PW X e t) (q : t σ H Q) : wW X e σ H Q := ⟨fun whole pins s I => h.run whole pins s σ H Q I q⟩
theorem wA.of {es : List Expr} {t : TA} {σ : St} {H : Hp} {Q : List V → Hp → Prop} (h : PA X es t) (q : t σ H Q) : wA X es σ H Q := ⟨fun pos pins s I => h.run pos pins s σ H Q I q⟩
theorem wS.of {st : Stmt} {t : TS} {σ : St} {H : Hp} {D : Ends} (h : PS X st t) (q : t D σ H) : wS X st D σ H := ⟨fun pins s I => h.run pins s σ H D I q⟩
theorem wSs.of {st : List Stmt} {t : TS} {σ : St} {H : Hp} {D : Ends} (h : PSs X st t) (q : t D σ H) : wSs X st D σ H := ⟨fun pins s I => h.run pins s σ H D I q⟩
theorem wG.of {tg : Expr} {t : TG} {v : V} {σ : St} {H : Hp} {Q : St → Hp → Prop} (h : PG X tg t) (q : t v σ H Q) : wG X tg v σ H Q := ⟨fun pins s u I r => h.run pins s σ H v u Q I r q⟩
end

/-! ### the judgements over data -/
/-- what a reading of a value ends in -/
abbrev Fin1 (X : Cx) (ad : AD) (H : Hp) (μ' : Mem) (p : PV) (Q : VK) : Prop :=
  ∀ ad2 v H', Stp ad ad2 H H' → Mst (ad ++ ad2) X.K H' μ' → Rp (ad ++ ad2) X.K H' p v → Q v H'
abbrev FinB (X : Cx) (ad : AD) (H : Hp) (μ' : Mem) (b : Bool) (Q : Bool → Hp → Prop) : Prop :=
  ∀ ad2 H', Stp ad ad2 H H' → Mst (ad ++ ad2) X.K H' μ' → Q b H'
abbrev FinL (X : Cx) (ad : AD) (H : Hp) (μ' : Mem) (ps : List PV) (Q : List V → Hp → Prop) : Prop :=
  ∀ ad2 vs H', Stp ad ad2 H H' → Mst (ad ++ ad2) X.K H' μ' → RpL (ad ++ ad2) X.K H' ps vs → Q vs H'
def DE (X : Cx) (e : Expr) (ρ : Env) (μ : Mem) (p : PV) (μ' : Mem) : Prop :=
  ∀ ad σ H Q, Rst ad X.K H σ ρ μ → Fin1 X ad H μ' p Q → wE X e σ H Q
def DT (X : Cx) (e : Expr) (ρ : Env) (μ : Mem) (b : Bool) (μ' : Mem) : Prop :=
  ∀ ad σ H Q, Rst ad X.K H σ ρ μ → FinB X ad H μ' b Q → wT X e σ H Q
def DW (X : Cx) (e : Expr) (ρ : Env) (μ : Mem) (b : Bool) (μ' : Mem) : Prop :=
  ∀ ad σ H Q, Rst ad X.K H σ ρ μ → FinB X ad H μ' b Q → wW X e σ H Q
def DA (X : Cx) (es : List Expr) (ρ : Env) (μ : Mem) (ps : List PV) (μ' : Mem) : Prop :=
  ∀ ad σ H Q, Rst ad X.K H σ ρ μ → FinL X ad H μ' ps Q → wA X es σ H Q
/-- an exception: its class, its own fields -/
structure EX where
  C : Addr
  fs : List Str
  vs : List PV
def RpX (ad : AD) (K : PySem.W.Frag) (H : Hp) (x : EX) (cls : Value) (d : Option Addr) : Prop :=
  ∃ ws, cls = .ref x.C ∧ XdAt ad H d (x.fs.zip ws) ∧ x.fs.length = ws.length ∧ RpL ad K H x.vs ws
/-- the wish about exceptions that X itself has -/
def X0 (X : Cx) : WX := fun cls d σ H => ∀ u s', XE X (fun c d' σ' H' => c = cls ∧ d' = d ∧ σ' = σ ∧ H' = H) u s' → X.xe u s'
theorem takesX0 {X : Cx} : Takes X (X0 X) := fun u s' ⟨a, B, sI, pins, σ, H, cls, d, e, I, nb, up, sky, na, os, ag, w⟩ =>
  w u s' ⟨a, B, sI, pins, σ, H, cls, d, e, I, nb, up, sky, na, os, ag, rfl, rfl, rfl, rfl⟩
theorem X0.of {X : Cx} {W : WX} (t : Takes X W) {cls : Value} {d : Option Addr} {σ : L2.St} {H : Hp} (w : W cls d σ H) : X0 X cls d σ H := fun u s' ⟨a, B, sI, pins, σ', H', cls', d', e, I, nb, up, sky, na, os, ag, e1, e2, e3, e4⟩ => by
  subst e1 e2 e3 e4
  exact t u s' ⟨a, B, sI, pins, _, _, _, _, e, I, nb, up, sky, na, os, ag, w⟩
structure AEnds where
  nx : Env → Mem → Prop
  rt : PV → Mem → Prop
  bk : Env → Mem → Prop := fun _ _ => False
  ct : Env → Mem → Prop := fun _ _ => False
  xx : EX → Env → Mem → Prop := fun _ _ _ => False
/-- the ends D are served by Dc, seen from ad, H -/
structure Cov (X : Cx) (ad : AD) (H : Hp) (D : AEnds) (Dc : Ends) : Prop where
  nx : ∀ ad2 σ' H' ρ' μ', Stp ad ad2 H H' → Rst (ad ++ ad2) X.K H' σ' ρ' μ' → D.nx ρ' μ' → Dc.nx σ' H'
  bk : ∀ ad2 σ' H' ρ' μ', Stp ad ad2 H H' → Rst (ad ++ ad2) X.K H' σ' ρ' μ' → D.bk ρ' μ' → Dc.bk σ' H'
  ct : ∀ ad2 σ' H' ρ' μ', Stp ad ad2 H H' → Rst (ad ++ ad2) X.K H' σ' ρ' μ' → D.ct ρ' μ' → Dc.ct σ' H'
  rt : ∀ ad2 v H' p μ', Stp ad ad2 H H' → Mst (ad ++ ad2) X.K H' μ' → Rp (ad ++ ad2) X.K H' p v → D.rt p μ' → Dc.rt v H'
  xx : ∀ ad2 σ' H' ρ' μ' x cls d, Stp ad ad2 H H' → Rst (ad ++ ad2) X.K H' σ' ρ' μ' → RpX (ad ++ ad2) X.K H' x cls d → D.xx x ρ' μ' → X0 X cls d σ' H'
def DS (X : Cx) (st : Stmt) (ρ : Env) (μ : Mem) (D : AEnds) : Prop :=
  ∀ ad σ H Dc, Rst ad X.K H σ ρ μ → Cov X ad H D Dc → wS X st Dc σ H
def DSs (X : Cx) (st : List Stmt) (ρ : Env) (μ : Mem) (D : AEnds) : Prop :=
  ∀ ad σ H Dc, Rst ad X.K H σ ρ μ → Cov X ad H D Dc → wSs X st Dc σ H
def DG (X : Cx) (tg : Expr) (p : PV) (ρ : Env) (μ : Mem) (ρ' : Env) : Prop :=
  ∀ ad σ H v (Q : L2.St → Hp → Prop), Rst ad X.K H σ ρ μ → Rp ad X.K H p v → (∀ σ', Rst ad X.K H σ' ρ' μ → Q σ' H) → wG X tg v σ H Q

section
variable {X : Cx} {ad : AD} {ad2 : List Addr} {σ : L2.St} {H H' : Hp} {ρ ρ' : Env} {μ μ1 μ2 μ' : Mem} {p q r : PV} {e a b c : Expr} {es : List Expr} {pos : Pos} {k : Bool} {D : AEnds} {Dc : Ends}
theorem Stp.nil (s : Stp ad [] H H') (h : Rp (ad ++ ([] : List Addr)) X.K H' p v) : Rp ad X.K H' p v := by rwa [AD.append_nil] at h
theorem Rst.nil (h : Rst ad X.K H σ ρ μ) : Mst (ad ++ ([] : List Addr)) X.K H μ := by rw [AD.append_nil]; exact h.m
theorem Rp.nil {v : V} (h : Rp ad X.K H p v) : Rp (ad ++ ([] : List Addr)) X.K H p v := by rw [AD.append_nil]; exact h
theorem Fin1.step {Q : VK} (s : Stp ad ad2 H H') (f : Fin1 X ad H μ' p Q) : Fin1 X (ad ++ ad2) H' μ' p Q := fun ad3 v H2 s2 m r => f (ad2 ++ ad3) v H2 (s.trans s2) (by rwa [← AD.append_assoc]) (by rwa [← AD.append_assoc])
theorem FinB.step {Q : Bool → Hp → Prop} (s : Stp ad ad2 H H') (f : FinB X ad H μ' k Q) : FinB X (ad ++ ad2) H' μ' k Q := fun ad3 H2 s2 m => f (ad2 ++ ad3) H2 (s.trans s2) (by rwa [← AD.append_assoc])
theorem FinL.step {ps : List PV} {Q : List V → Hp → Prop} (s : Stp ad ad2 H H') (f : FinL X ad H μ' ps Q) : FinL X (ad ++ ad2) H' μ' ps Q := fun ad3 v H2 s2 m r => f (ad2 ++ ad3) v H2 (s.trans s2) (by rwa [← AD.append_assoc]) (by rwa [← AD.append_assoc])
theorem Cov.step (s : Stp ad ad2 H H') (c : Cov X ad H D Dc) : Cov X (ad ++ ad2) H' D Dc :=
  ⟨fun ad3 σ' H2 ρ' μ' s2 R d => c.nx (ad2 ++ ad3) σ' H2 ρ' μ' (s.trans s2) (by rwa [← AD.append_assoc]) d,
   fun ad3 σ' H2 ρ' μ' s2 R d => c.bk (ad2 ++ ad3) σ' H2 ρ' μ' (s.trans s2) (by rwa [← AD.append_assoc]) d,
   fun ad3 σ' H2 ρ' μ' s2 R d => c.ct (ad2 ++ ad3) σ' H2 ρ' μ' (s.trans s2) (by rwa [← AD.append_assoc]) d,
   fun ad3 v H2 p μ' s2 m r d => c.rt (ad2 ++ ad3) v H2 p μ' (s.trans s2) (by rwa [← AD.append_assoc]) (by rwa [← AD.append_assoc]) d,
   fun ad3 σ' H2 ρ' μ' x cls dd s2 R r d => c.xx (ad2 ++ ad3) σ' H2 ρ' μ' x cls dd (s.trans s2) (by rwa [← AD.append_assoc]) (by rwa [← AD.append_assoc]) d⟩

/-! ### names and constants -/
theorem DE.pe {i : Nat} (hp : PE X e (tVar i)) (h : ρ[i]? = some (some p)) : DE X e ρ μ p μ := fun ad σ H Q R f => by
  obtain ⟨v, e1, r⟩ := R.e.get i p h
  exact wE.of hp ⟨v, e1, f [] v H Stp.refl R.nil r.nil⟩
theorem Rp.int' {ad : AD} {K : PySem.W.Frag} {H : Hp} (i : Int) : Rp ad K H (.int i) (.int i) := by unfold Rp; rfl
theorem Rp.bl' {ad : AD} {K : PySem.W.Frag} {H : Hp} (i : Bool) : Rp ad K H (.bl i) (.bl i) := by unfold Rp; rfl
theorem Rp.str' {ad : AD} {K : PySem.W.Frag} {H : Hp} (i : Str) : Rp ad K H (.str i) (.str i) := by unfold Rp; rfl
theorem Rp.non' {ad : AD} {K : PySem.W.Frag} {H : Hp} : Rp ad K H .non .non := by unfold Rp; rfl
theorem Rp.int_inv {ad : AD} {K : PySem.W.Frag} {H : Hp} {i : Int} {v : V} (h : Rp ad K H (.int i) v) : v = .int i := by unfold Rp at h; exact h
theorem Rp.bl_inv {ad : AD} {K : PySem.W.Frag} {H : Hp} {i : Bool} {v : V} (h : Rp ad K H (.bl i) v) : v = .bl i := by unfold Rp at h; exact h
theorem Rp.str_inv {ad : AD} {K : PySem.W.Frag} {H : Hp} {i : Str} {v : V} (h : Rp ad K H (.str i) v) : v = .str i := by unfold Rp at h; exact h
theorem Rp.non_inv {ad : AD} {K : PySem.W.Frag} {H : Hp} {v : V} (h : Rp ad K H .non v) : v = .non := by unfold Rp at h; exact h
theorem Rp.tup_inv {ad : AD} {K : PySem.W.Frag} {H : Hp} {xs : List PV} {v : V} (h : Rp ad K H (.tup xs) v) : ∃ a vs, v = .ref a ∧ SqT K H a vs ∧ RpL ad K H xs vs := by
  unfold Rp at h
  obtain ⟨a, vs, e, h1, h2⟩ := h
  rcases h1 with ⟨x, _⟩ | x
  · exact ⟨a, vs, e, SqT.of x, h2⟩
  · exact ⟨a, vs, e, x.sq, h2⟩
theorem Rp.lst_inv {ad : AD} {K : PySem.W.Frag} {H : Hp} {xs : List PV} {v : V} (h : Rp ad K H (.lst xs) v) : ∃ a vs, v = .ref a ∧ H a = some (.lst vs) ∧ a ∉ ad ∧ RpL ad K H xs vs := by
  unfold Rp at h
  obtain ⟨a, vs, e, ⟨h1, h3⟩, h2⟩ := h
  exact ⟨a, vs, e, h1, h3, h2⟩
theorem Rp.obj_inv {ad : AD} {K : PySem.W.Frag} {H : Hp} {k : Nat} {v : V} (h : Rp ad K H (.obj k) v) : ∃ a, v = .ref a ∧ ad.at k = some a := by unfold Rp at h; exact h
def isNon : PV → Bool
  | .non => true
  | _ => false
/-- the items of a list: of data, the script, an object -/
def asL (μ : Mem) : PV → Option (List PV)
  | .lst xs => some xs
  | .scr xs => some xs
  | .obj k => match μ[k]? with
    | some (.lst xs) => some xs
    | _ => none
  | _ => none
/-- .. that is tracked as it is -/
def asK (μ : Mem) : PV → Option (List PV)
  | .lst xs => some xs
  | .obj k => match μ[k]? with
    | some (.lst xs) => some xs
    | _ => none
  | _ => none
theorem Rp.asK_inv {ad : AD} {K : PySem.W.Frag} {H : Hp} {μ : Mem} {xs : List PV} {p : PV} {v : V} (e : asK μ p = some xs) (m : Mst ad K H μ) (h : Rp ad K H p v) : ∃ a vs, v = .ref a ∧ H a = some (.lst vs) ∧ RpL ad K H xs vs := by
  cases p with
  | lst ys =>
    cases e
    obtain ⟨a, vs, e, h1, h3, h2⟩ := h.lst_inv
    exact ⟨a, vs, e, h1, h2⟩
  | obj k =>
    obtain ⟨a, e1, h1⟩ := h.obj_inv
    unfold asK at e
    dsimp only at e
    cases q : μ[k]? with
    | none => rw [q] at e; cases e
    | some o =>
      rw [q] at e
      cases o with
      | lst ys =>
        cases e
        obtain ⟨vs, hv, r⟩ := m.mem k a _ h1 q
        exact ⟨a, vs, e1, hv, r⟩
      | _ => cases e
  | _ => cases e
theorem Rp.asL_inv {ad : AD} {K : PySem.W.Frag} {H : Hp} {μ : Mem} {xs : List PV} {p : PV} {v : V} (e : asL μ p = some xs) (m : Mst ad K H μ) (h : Rp ad K H p v) : ∃ a vs, v = .ref a ∧ SqL K H a vs ∧ RpL ad K H xs vs := by
  cases p with
  | scr ys =>
    cases e
    unfold Rp at h
    obtain ⟨a, vs, e, h1, h2⟩ := h
    rcases h1 with ⟨⟨o, h1⟩, _⟩ | h1
    · exact ⟨a, vs, e, .inl (.inr ⟨o, h1⟩), h2⟩
    · exact ⟨a, vs, e, .inr h1, h2⟩
  | lst ys =>
    obtain ⟨a, vs, e1, h1, r⟩ := Rp.asK_inv (μ := μ) (xs := xs) (by cases e; rfl) m h
    exact ⟨a, vs, e1, SqL.of h1, r⟩
  | obj k =>
    obtain ⟨a, vs, e1, h1, r⟩ := Rp.asK_inv (μ := μ) (xs := xs) (by unfold asL at e; unfold asK; exact e) m h
    exact ⟨a, vs, e1, SqL.of h1, r⟩
  | _ => cases e
theorem DE.int {i : Int} {j : Nat} : DE X (.Constant (.int i) j pos) ρ μ (.int i) μ := fun ad σ H Q R f => wE.of pe_int (f [] _ H Stp.refl R.nil (Rp.int' i))
theorem DE.bl {i : Bool} {j : Nat} : DE X (.Constant (.bool i) j pos) ρ μ (.bl i) μ := fun ad σ H Q R f => wE.of pe_bl (f [] _ H Stp.refl R.nil (Rp.bl' i))
theorem DE.str {i : Str} {j : Nat} : DE X (.Constant (.str i) j pos) ρ μ (.str i) μ := fun ad σ H Q R f => wE.of pe_str (f [] _ H Stp.refl R.nil (Rp.str' i))
theorem DE.non {j : Nat} : DE X (.Constant .none j pos) ρ μ .non μ := fun ad σ H Q R f => wE.of pe_non (f [] _ H Stp.refl R.nil Rp.non')

/-! ### arguments, displays -/
theorem DA.nil : DA X [] ρ μ [] μ := fun ad σ H Q R f => wA.of pa_nil (f [] _ H Stp.refl R.nil RpL.nil)
theorem DA.cons {ps : List PV} (h : DE X e ρ μ p μ1) (t : DA X es ρ μ1 ps μ2) (hs : starEach (e :: es) X.env = (false, eval e X.env) :: starEach es X.env := by rfl) : DA X (e :: es) ρ μ (p :: ps) μ2 := fun ad σ H Q R f =>
  wA.of (pa_cons (pe_w e) (pa_w es) hs) (h ad σ H _ R fun ad1 v H1 s1 m1 r1 =>
    t (ad ++ ad1) σ H1 _ (R.mono s1 m1) fun ad2 vs H2 s2 m2 r2 => f (ad1 ++ ad2) _ H2 (s1.trans s2) (by rwa [← AD.append_assoc]) (by rw [← AD.append_assoc]; exact RpL.cons (r1.mono s2) r2))
theorem le_line {n : Nat} (h : n ≤ 1000) : n ≤ sizeLine := Nat.le_of_lt (small1000 h)
theorem DE.tup {ps : List PV} {x1 : Nat} (h : DA X es ρ μ ps μ') (hl : ps.length ≤ sizeLine := by exact le_line (Nat.le_of_ble_eq_true rfl)) : DE X (.Tuple es x1 pos) ρ μ (.tup ps) μ' := fun ad σ H Q R f =>
  wE.of (pe_tup (pa_w es)) (h ad σ H _ R fun ad1 vs H1 s1 m1 r1 => ⟨by rw [← r1.length]; exact hl, fun a ha => by
    have s2 : Stp (ad ++ ad1) [] H1 (upd H1 a (.tup vs)) := Stp.data ha
    refine f (ad1 ++ []) _ _ (s1.trans s2) (by rw [List.append_nil]; exact m1.data ha) ?_
    rw [List.append_nil]
    unfold Rp
    refine ⟨a, vs, rfl, .inl ⟨upd_same, m1.notIn ha⟩, ?_⟩
    have := RpL.mono (K := X.K) s2 ps vs r1
    rwa [AD.append_nil] at this⟩)
/-- a list that is never changed -/
theorem DE.lst {ps : List PV} (h : DA X es ρ μ ps μ') (hl : ps.length ≤ sizeLine := by exact le_line (Nat.le_of_ble_eq_true rfl)) : DE X (.List es pos) ρ μ (.lst ps) μ' := fun ad σ H Q R f =>
  wE.of (pe_lst (pa_w es)) (h ad σ H _ R fun ad1 vs H1 s1 m1 r1 => ⟨by rw [← r1.length]; exact hl, fun a ha => by
    have s2 : Stp (ad ++ ad1) [] H1 (upd H1 a (.lst vs)) := Stp.data ha
    refine f (ad1 ++ []) _ _ (s1.trans s2) (by rw [List.append_nil]; exact m1.data ha) ?_
    rw [List.append_nil]
    unfold Rp
    refine ⟨a, vs, rfl, ⟨upd_same, m1.notIn ha⟩, ?_⟩
    have := RpL.mono (K := X.K) s2 ps vs r1
    rwa [AD.append_nil] at this⟩)
/-- a list that may be changed: a new object -/
theorem DE.lstO {ps : List PV} (h : DA X es ρ μ ps μ') (hl : ps.length ≤ sizeLine := by exact le_line (Nat.le_of_ble_eq_true rfl)) : DE X (.List es pos) ρ μ (.obj μ'.length) (μ' ++ [.lst ps]) := fun ad σ H Q R f =>
  wE.of (pe_lst (pa_w es)) (h ad σ H _ R fun ad1 vs H1 s1 m1 r1 => ⟨by rw [← r1.length]; exact hl, fun a ha => by
    have s2 : Stp (ad ++ ad1) [a] H1 (upd H1 a (.lst vs)) := Stp.fresh ha
    refine f (ad1 ++ [a]) _ _ (s1.trans s2) ?_ ?_
    · rw [← AD.append_assoc]
      exact m1.push ha ⟨vs, upd_same, RpL.mono (K := X.K) s2 ps vs r1⟩
    · rw [← AD.append_assoc]
      unfold Rp
      exact ⟨a, rfl, AD.at_snoc m1.len⟩⟩)

/-! ### operators by values -/
def OpA (X : Cx) (f : Value → Value → Sem Value) (x y : PV) (μ : Mem) (p : PV) : Prop :=
  ∃ r : R2, OpR X f r ∧ ∀ ad H vx vy Q, Mst ad X.K H μ → Rp ad X.K H x vx → Rp ad X.K H y vy → Fin1 X ad H μ p Q → r vx vy H Q
theorem DE.bin {op : Operator} (ha : DE X a ρ μ p μ1) (hb : DE X b ρ μ1 q μ2) (o : OpA X (binaryOp op) p q μ2 r) : DE X (.BinOp a op b pos) ρ μ r μ2 := fun ad σ H Q R f => by
  obtain ⟨rr, ho, hr⟩ := o
  refine wE.of (pe_op ho (pe_w a) (pe_w b)) (ha ad σ H _ R fun ad1 v H1 s1 m1 r1 => hb (ad ++ ad1) σ H1 _ (R.mono s1 m1) fun ad2 u H2 s2 m2 r2 => ?_)
  exact hr (ad ++ ad1 ++ ad2) H2 v u Q m2 (r1.mono s2) r2 ((f.step s1).step s2)
theorem DE.cmp {op : CmpOp} (ha : DE X a ρ μ p μ1) (hb : DE X b ρ μ1 q μ2) (o : OpA X (compareOp op) p q μ2 r) (hm : behindInMarks op b = false := by first | rfl | exact nomark _) : DE X (.Compare a [op] [b] pos) ρ μ r μ2 := fun ad σ H Q R f => by
  obtain ⟨rr, ho, hr⟩ := o
  refine wE.of (pe_cmpR ho (pe_w a) (pe_w b) hm) (ha ad σ H _ R fun ad1 v H1 s1 m1 r1 => hb (ad ++ ad1) σ H1 _ (R.mono s1 m1) fun ad2 u H2 s2 m2 r2 => ?_)
  exact hr (ad ++ ad1 ++ ad2) H2 v u Q m2 (r1.mono s2) r2 ((f.step s1).step s2)
theorem DT.cmp {op : CmpOp} (ha : DE X a ρ μ p μ1) (hb : DE X b ρ μ1 q μ2) (o : OpA X (compareOp op) p q μ2 (.bl k)) (hm : behindInMarks op b = false := by first | rfl | exact nomark _) : DT X (.Compare a [op] [b] pos) ρ μ k μ2 := fun ad σ H Q R f => by
  obtain ⟨rr, ho, hr⟩ := o
  refine wT.of (pt_cmpR ho (pe_w a) (pe_w b) hm) (ha ad σ H _ R fun ad1 v H1 s1 m1 r1 => hb (ad ++ ad1) σ H1 _ (R.mono s1 m1) fun ad2 u H2 s2 m2 r2 => ?_)
  exact hr (ad ++ ad1 ++ ad2) H2 v u _ m2 (r1.mono s2) r2 fun ad3 w H3 s3 m3 r3 => ⟨k, r3.bl_inv, ((f.step s1).step s2) ad3 H3 s3 m3⟩
theorem OpA.int0 {f : Value → Value → Sem Value} {g : Int → Int → V} {i j : Int} {p : PV} (ho : OpR X f (rI0 g)) (hg : ∀ ad H, Rp ad X.K H p (g i j)) : OpA X f (.int i) (.int j) μ p :=
  ⟨_, ho, fun ad H vx vy Q m rx ry f => ⟨i, j, rx.int_inv, ry.int_inv, f [] _ H Stp.refl (by rwa [AD.append_nil]) (hg _ _)⟩⟩
theorem OpA.int1 {f : Value → Value → Sem Value} {C : Int → Int → Prop} {g : Int → Int → V} {i j : Int} {p : PV} (ho : OpR X f (rI C g)) (hc : C i j) (hg : ∀ ad H, Rp ad X.K H p (g i j)) : OpA X f (.int i) (.int j) μ p :=
  ⟨_, ho, fun ad H vx vy Q m rx ry f => ⟨i, j, rx.int_inv, ry.int_inv, hc, f [] _ H Stp.refl (by rwa [AD.append_nil]) (hg _ _)⟩⟩
variable {i j : Int}
theorem oa_add : OpA X (binaryOp .Add) (.int i) (.int j) μ (.int (i + j)) := .int0 op_add fun _ _ => Rp.int' _
theorem oa_sub : OpA X (binaryOp .Sub) (.int i) (.int j) μ (.int (i - j)) := .int0 op_sub fun _ _ => Rp.int' _
theorem oa_mul (h : CMulW i j) : OpA X (binaryOp .Mult) (.int i) (.int j) μ (.int (i * j)) := .int1 op_mulW h fun _ _ => Rp.int' _
theorem oa_div (h : CDivW i j) : OpA X (binaryOp .FloorDiv) (.int i) (.int j) μ (.int (i / j)) := .int1 op_fdivW h fun _ _ => Rp.int' _
theorem oa_mod (h : 0 < j) : OpA X (binaryOp .Mod) (.int i) (.int j) μ (.int (i % j)) := .int1 op_mod h fun _ _ => Rp.int' _
theorem oa_pow (h : CPow i j) : OpA X (binaryOp .Pow) (.int i) (.int j) μ (.int (i ^ j.toNat)) := .int1 op_pow h fun _ _ => Rp.int' _
theorem oa_lt : OpA X (compareOp .Lt) (.int i) (.int j) μ (.bl (decide (i < j))) := .int0 op_lt fun _ _ => Rp.bl' _
theorem oa_gt : OpA X (compareOp .Gt) (.int i) (.int j) μ (.bl (decide (j < i))) := .int0 op_gt fun _ _ => Rp.bl' _
theorem oa_eq : OpA X (compareOp .Eq) (.int i) (.int j) μ (.bl (decide (i = j))) :=
  ⟨_, op_eq, fun ad H vx vy Q m rx ry f => by
    rw [rx.int_inv, ry.int_inv]
    refine ⟨rfl, ?_⟩
    rw [show decide (V.int i = V.int j) = decide (i = j) from by by_cases h : i = j <;> simp [h]]
    exact f [] _ H Stp.refl (by rwa [AD.append_nil]) (Rp.bl' _)⟩
theorem oa_ne : OpA X (compareOp .NotEq) (.int i) (.int j) μ (.bl (!decide (i = j))) :=
  ⟨_, op_ne, fun ad H vx vy Q m rx ry f => by
    rw [rx.int_inv, ry.int_inv]
    refine ⟨rfl, ?_⟩
    rw [show decide (V.int i = V.int j) = decide (i = j) from by by_cases h : i = j <;> simp [h]]
    exact f [] _ H Stp.refl (by rwa [AD.append_nil]) (Rp.bl' _)⟩
theorem oa_eqS {x y : Str} : OpA X (compareOp .Eq) (.str x) (.str y) μ (.bl (decide (x = y))) :=
  ⟨_, op_eq, fun ad H vx vy Q m rx ry f => by
    rw [rx.str_inv, ry.str_inv]
    refine ⟨rfl, ?_⟩
    rw [show decide (V.str x = V.str y) = decide (x = y) from by by_cases h : x = y <;> simp [h]]
    exact f [] _ H Stp.refl (by rwa [AD.append_nil]) (Rp.bl' _)⟩
theorem oa_neS {x y : Str} : OpA X (compareOp .NotEq) (.str x) (.str y) μ (.bl (!decide (x = y))) :=
  ⟨_, op_ne, fun ad H vx vy Q m rx ry f => by
    rw [rx.str_inv, ry.str_inv]
    refine ⟨rfl, ?_⟩
    rw [show decide (V.str x = V.str y) = decide (x = y) from by by_cases h : x = y <;> simp [h]]
    exact f [] _ H Stp.refl (by rwa [AD.append_nil]) (Rp.bl' _)⟩
theorem oa_addS {x y : Str} (h : x.length + y.length ≤ sizeLine) : OpA X (binaryOp .Add) (.str x) (.str y) μ (.str (x ++ y)) :=
  ⟨_, op_add_str, fun ad H vx vy Q m rx ry f => ⟨x, y, rx.str_inv, ry.str_inv, h, f [] _ H Stp.refl (by rwa [AD.append_nil]) (Rp.str' _)⟩⟩
/-- list + list -/
theorem oa_cat {xs ys : List PV} (h1 : asK μ p = some xs) (h2 : asK μ q = some ys) (h : xs.length + ys.length ≤ sizeLine) : OpA X (binaryOp .Add) p q μ (.lst (xs ++ ys)) :=
  ⟨_, op_cat, fun ad H vx vy Q m rx ry f => by
    obtain ⟨a, vs, e1, h1, r1⟩ := rx.asK_inv h1 m
    obtain ⟨b, ws, e2, h2, r2⟩ := ry.asK_inv h2 m
    refine ⟨a, b, vs, ws, e1, e2, h1, h2, by rw [← r1.length, ← r2.length]; exact h, fun l hl => ?_⟩
    have s2 : Stp ad [] H (upd H l (.lst (vs ++ ws))) := Stp.data hl
    refine f [] _ _ s2 (by rw [AD.append_nil]; exact m.data hl) ?_
    rw [AD.append_nil]
    unfold Rp
    refine ⟨l, _, rfl, ⟨upd_same, m.notIn hl⟩, ?_⟩
    have := RpL.mono (K := X.K) s2 _ _ (r1.append r2)
    rwa [AD.append_nil] at this⟩
theorem oa_isN : OpA X (compareOp .Is) p .non μ (.bl (isNon p)) :=
  ⟨_, op_isN, fun ad H vx vy Q m rx ry f => by
    refine ⟨ry.non_inv, ?_⟩
    have e : decide (vx = V.non) = (isNon p) := by
      cases p <;> unfold Rp at rx
      case non => subst rx; rfl
      case bl => subst rx; rfl
      case int => subst rx; rfl
      case str => subst rx; rfl
      all_goals (obtain ⟨a, rx⟩ := rx)
      case obj => obtain ⟨e, _⟩ := rx; subst e; rfl
      case tup => obtain ⟨_, e, _⟩ := rx; subst e; rfl
      case lst => obtain ⟨_, e, _⟩ := rx; subst e; rfl
      case scr => obtain ⟨_, e, _⟩ := rx; subst e; rfl
      case wtp => obtain ⟨_, e, _⟩ := rx; subst e; rfl
      case dct => obtain ⟨_, e, _⟩ := rx; subst e; rfl
      case exc => obtain ⟨_, _, e, _⟩ := rx; subst e; rfl
      case exm => obtain ⟨_, e, _⟩ := rx; subst e; rfl
    rw [e]
    exact f [] _ H Stp.refl (by rwa [AD.append_nil]) (Rp.bl' _)⟩
theorem oa_notN : OpA X (compareOp .IsNot) p .non μ (.bl (!(isNon p))) :=
  ⟨_, op_notN, fun ad H vx vy Q m rx ry f => by
    refine ⟨ry.non_inv, ?_⟩
    have e : decide (vx = V.non) = (isNon p) := by
      cases p <;> unfold Rp at rx
      case non => subst rx; rfl
      case bl => subst rx; rfl
      case int => subst rx; rfl
      case str => subst rx; rfl
      all_goals (obtain ⟨a, rx⟩ := rx)
      case obj => obtain ⟨e, _⟩ := rx; subst e; rfl
      case tup => obtain ⟨_, e, _⟩ := rx; subst e; rfl
      case lst => obtain ⟨_, e, _⟩ := rx; subst e; rfl
      case scr => obtain ⟨_, e, _⟩ := rx; subst e; rfl
      case wtp => obtain ⟨_, e, _⟩ := rx; subst e; rfl
      case dct => obtain ⟨_, e, _⟩ := rx; subst e; rfl
      case exc => obtain ⟨_, _, e, _⟩ := rx; subst e; rfl
      case exm => obtain ⟨_, e, _⟩ := rx; subst e; rfl
    rw [e]
    exact f [] _ H Stp.refl (by rwa [AD.append_nil]) (Rp.bl' _)⟩
theorem DE.neg (ha : DE X a ρ μ (.int i) μ1) : DE X (.UnaryOp .USub a pos) ρ μ (.int (-i)) μ1 := fun ad σ H Q R f =>
  wE.of (pe_un un_neg (pe_w a)) (ha ad σ H _ R fun ad1 v H1 s1 m1 r1 => ⟨i, r1.int_inv, f ad1 _ H1 s1 m1 (Rp.int' _)⟩)

/-! ### tests -/
theorem DT.val (ha : DE X a ρ μ (.bl k) μ1) (he : ∀ whole, isTrue a X.env whole = (do let v ← whole; standAt a.pos; holding [v] (truthy v)) := by intro _; rfl) : DT X a ρ μ k μ1 := fun ad σ H Q R f =>
  wT.of (pt_val (pe_w a) he) (ha ad σ H _ R fun ad1 v H1 s1 m1 r1 => ⟨k, r1.bl_inv, f ad1 H1 s1 m1⟩)
theorem DT.not (ha : DT X a ρ μ k μ1) : DT X (.UnaryOp .Not a pos) ρ μ (!k) μ1 := fun ad σ H Q R f =>
  wT.of (pt_not (pt_w a)) (ha ad σ H _ R fun ad1 H1 s1 m1 => f ad1 H1 s1 m1)
theorem DE.not (ha : DE X a ρ μ (.bl k) μ1) : DE X (.UnaryOp .Not a pos) ρ μ (.bl (!k)) μ1 := fun ad σ H Q R f =>
  wE.of (pe_not (pe_w a)) (ha ad σ H _ R fun ad1 v H1 s1 m1 r1 => ⟨k, r1.bl_inv, f ad1 _ H1 s1 m1 (Rp.bl' _)⟩)
theorem DW.t (h : DW X a ρ μ k μ1) : DT X a ρ μ k μ1 := fun ad σ H Q R f => wT.of (pw_w a).pt (h ad σ H Q R f)
theorem DW.and1 (ha : DT X a ρ μ k μ1) : DW X (.BoolOp .And [a] pos) ρ μ k μ1 := fun ad σ H Q R f => wW.of (pw_and1 (pt_w a)) (ha ad σ H Q R f)
theorem DW.or1 (ha : DT X a ρ μ k μ1) : DW X (.BoolOp .Or [a] pos) ρ μ k μ1 := fun ad σ H Q R f => wW.of (pw_or1 (pt_w a)) (ha ad σ H Q R f)
/-- a and .., the rest pure -/
theorem DW.and {k1 k2 : Bool} (ha : DT X a ρ μ k1 μ1) (hb : k1 = true → DW X (.BoolOp .And (b :: es) pos) ρ μ1 k2 μ1) : DW X (.BoolOp .And (a :: b :: es) pos) ρ μ (k1 && k2) μ1 := fun ad σ H Q R f =>
  wW.of (pw_and (pt_w a) (pw_w _)) (ha ad σ H _ R fun ad1 H1 s1 m1 => by
    cases k1 with
    | false => exact iteF (f ad1 H1 s1 m1)
    | true => exact iteT (hb rfl _ σ H1 Q (R.mono s1 m1) (f.step s1)))
theorem DW.or {k1 k2 : Bool} (ha : DT X a ρ μ k1 μ1) (hb : k1 = false → DW X (.BoolOp .Or (b :: es) pos) ρ μ1 k2 μ1) : DW X (.BoolOp .Or (a :: b :: es) pos) ρ μ (k1 || k2) μ1 := fun ad σ H Q R f =>
  wW.of (pw_or (pt_w a) (pw_w _)) (ha ad σ H _ R fun ad1 H1 s1 m1 => by
    cases k1 with
    | true => exact iteT (f ad1 H1 s1 m1)
    | false => exact iteF (hb rfl _ σ H1 Q (R.mono s1 m1) (f.step s1)))
/-- the first is known: the rest may change the store -/
theorem DW.andT (ha : DT X a ρ μ true μ1) (hb : DW X (.BoolOp .And (b :: es) pos) ρ μ1 k μ2) : DW X (.BoolOp .And (a :: b :: es) pos) ρ μ k μ2 := fun ad σ H Q R f =>
  wW.of (pw_and (pt_w a) (pw_w _)) (ha ad σ H _ R fun ad1 H1 s1 m1 => iteT (hb _ σ H1 Q (R.mono s1 m1) (f.step s1)))
theorem DW.andF (ha : DT X a ρ μ false μ1) : DW X (.BoolOp .And (a :: b :: es) pos) ρ μ false μ1 := fun ad σ H Q R f =>
  wW.of (pw_and (pt_w a) (pw_w _)) (ha ad σ H _ R fun ad1 H1 s1 m1 => iteF (f ad1 H1 s1 m1))
theorem DW.orF (ha : DT X a ρ μ false μ1) (hb : DW X (.BoolOp .Or (b :: es) pos) ρ μ1 k μ2) : DW X (.BoolOp .Or (a :: b :: es) pos) ρ μ k μ2 := fun ad σ H Q R f =>
  wW.of (pw_or (pt_w a) (pw_w _)) (ha ad σ H _ R fun ad1 H1 s1 m1 => iteF (hb _ σ H1 Q (R.mono s1 m1) (f.step s1)))
theorem DW.orT (ha : DT X a ρ μ true μ1) : DW X (.BoolOp .Or (a :: b :: es) pos) ρ μ true μ1 := fun ad σ H Q R f =>
  wW.of (pw_or (pt_w a) (pw_w _)) (ha ad σ H _ R fun ad1 H1 s1 m1 => iteT (f ad1 H1 s1 m1))
theorem DE.one {op : PySem.BoolOp} (ha : DE X a ρ μ p μ1) : DE X (.BoolOp op [a] pos) ρ μ p μ1 := fun ad σ H Q R f => wE.of (pe_one (pe_w a)) (ha ad σ H Q R f)
theorem DE.and {k1 k2 : Bool} (ha : DE X a ρ μ (.bl k1) μ1) (hb : k1 = true → DE X (.BoolOp .And (b :: es) pos) ρ μ1 (.bl k2) μ1) : DE X (.BoolOp .And (a :: b :: es) pos) ρ μ (.bl (k1 && k2)) μ1 := fun ad σ H Q R f =>
  wE.of (pe_and (pe_w a) (pe_w _)) (ha ad σ H _ R fun ad1 v H1 s1 m1 r1 => ⟨k1, r1.bl_inv, by
    cases k1 with
    | false => exact iteF (f ad1 _ H1 s1 m1 (Rp.bl' _))
    | true => exact iteT (hb rfl _ σ H1 Q (R.mono s1 m1) (Fin1.step s1 f))⟩)
theorem DE.or {k1 k2 : Bool} (ha : DE X a ρ μ (.bl k1) μ1) (hb : k1 = false → DE X (.BoolOp .Or (b :: es) pos) ρ μ1 (.bl k2) μ1) : DE X (.BoolOp .Or (a :: b :: es) pos) ρ μ (.bl (k1 || k2)) μ1 := fun ad σ H Q R f =>
  wE.of (pe_or (pe_w a) (pe_w _)) (ha ad σ H _ R fun ad1 v H1 s1 m1 r1 => ⟨k1, r1.bl_inv, by
    cases k1 with
    | true => exact iteT (f ad1 _ H1 s1 m1 (Rp.bl' _))
    | false => exact iteF (hb rfl _ σ H1 Q (R.mono s1 m1) (Fin1.step s1 f))⟩)
/-! ### subscripts -/
theorem DE.ixR {rr : R2} (hr : IxR X rr) (ha : DE X a ρ μ p μ1) (hb : DE X b ρ μ1 q μ2) (h : ∀ ad H vx vy Q, Mst ad X.K H μ2 → Rp ad X.K H p vx → Rp ad X.K H q vy → Fin1 X ad H μ2 r Q → rr vx vy H Q)
    (hs : PlainIx b := by exact fun _ _ => rfl) : DE X (.Subscript a b pos) ρ μ r μ2 := fun ad σ H Q R f => by
  refine wE.of (pe_ix hr (pe_w a) (pe_w b) hs) (ha ad σ H _ R fun ad1 v H1 s1 m1 r1 => hb (ad ++ ad1) σ H1 _ (R.mono s1 m1) fun ad2 u H2 s2 m2 r2 => ?_)
  exact h (ad ++ ad1 ++ ad2) H2 v u Q m2 (r1.mono s2) r2 ((f.step s1).step s2)
theorem atI_rp {ad : AD} {K : PySem.W.Frag} {H : Hp} {xs : List PV} {vs : List V} {i : Int} {p : PV} (r : RpL ad K H xs vs) (h : atI xs i = some p) : ∃ v, atI vs i = some v ∧ Rp ad K H p v := by
  unfold atI at h ⊢
  rw [← r.length]
  cases e : ixN xs.length i with
  | none => rw [e] at h; cases h
  | some j => rw [e] at h; exact r.get h
/-- xs[i] -/
theorem DE.ixL {xs : List PV} (ha : DE X a ρ μ p μ1) (hb : DE X b ρ μ1 (.int i) μ2) (hl : asL μ2 p = some xs) (h : atI xs i = some r) (hs : PlainIx b := by exact fun _ _ => rfl) : DE X (.Subscript a b pos) ρ μ r μ2 :=
  DE.ixR ix_list ha hb (fun ad H vx vy Q m rx ry f => by
    obtain ⟨l, vs, e1, h1, r1⟩ := rx.asL_inv hl m
    obtain ⟨v, e2, r2⟩ := atI_rp r1 h
    exact ⟨l, vs, i, v, e1, ry.int_inv, h1, e2, f [] v H Stp.refl (by rwa [AD.append_nil]) (by rwa [AD.append_nil])⟩) hs
theorem DE.ixT {xs : List PV} (ha : DE X a ρ μ (.tup xs) μ1) (hb : DE X b ρ μ1 (.int i) μ2) (h : atI xs i = some r) (hs : PlainIx b := by exact fun _ _ => rfl) : DE X (.Subscript a b pos) ρ μ r μ2 :=
  DE.ixR ix_tup ha hb (fun ad H vx vy Q m rx ry f => by
    obtain ⟨l, vs, e1, h1, r1⟩ := rx.tup_inv
    obtain ⟨v, e2, r2⟩ := atI_rp r1 h
    exact ⟨l, vs, i, v, e1, ry.int_inv, h1, e2, f [] v H Stp.refl (by rwa [AD.append_nil]) (by rwa [AD.append_nil])⟩) hs
theorem DE.ixS {z : Str} {c : Nat} (ha : DE X a ρ μ (.str z) μ1) (hb : DE X b ρ μ1 (.int i) μ2) (h : atI z.cps.toList i = some c) (hz : z.length ≤ sizeLine) (hs : PlainIx b := by exact fun _ _ => rfl) : DE X (.Subscript a b pos) ρ μ (.str ⟨#[c]⟩) μ2 :=
  DE.ixR ix_str ha hb (fun ad H vx vy Q m rx ry f => ⟨z, i, c, rx.str_inv, ry.int_inv, hz, h, f [] _ H Stp.refl (by rwa [AD.append_nil]) (Rp.str' _)⟩) hs
end
end L3

namespace L3
open PySem PySem.Spec L2
section
variable {X : Cx} {ad : AD} {ad2 : List Addr} {σ : L2.St} {H H' : Hp} {ρ ρ' : Env} {μ μ1 μ2 μ' : Mem} {p q r : PV} {e a b c tg : Expr} {es : List Expr} {pos : Pos} {k : Bool} {D : AEnds} {Dc : Ends} {st : Stmt} {sts : List Stmt}

/-! ### blocks -/
theorem DSs.nil (h : D.nx ρ μ) : DSs X [] ρ μ D := fun ad σ H Dc R C => wSs.of pss_nil (C.nx [] σ H ρ μ Stp.refl (by rwa [AD.append_nil]) h)
theorem DSs.cons (h : DS X st ρ μ { D with nx := fun ρ' μ' => DSs X sts ρ' μ' D }) : DSs X (st :: sts) ρ μ D := fun ad σ H Dc R C =>
  wSs.of (pss_cons (ps_w st) (pss_w sts)) (h ad σ H { Dc with nx := wSs X sts Dc } R
    ⟨fun ad2 σ' H' ρ' μ' s R' d => d (ad ++ ad2) σ' H' Dc R' (C.step s), C.bk, C.ct, C.rt, C.xx⟩)
/-- the ends may be weakened -/
theorem DSs.mono {D' : AEnds} (h : DSs X sts ρ μ D) (hn : ∀ ρ μ, D.nx ρ μ → D'.nx ρ μ) (hr : ∀ p μ, D.rt p μ → D'.rt p μ) (hb : ∀ ρ μ, D.bk ρ μ → D'.bk ρ μ) (hc : ∀ ρ μ, D.ct ρ μ → D'.ct ρ μ) (hx : ∀ x ρ μ, D.xx x ρ μ → D'.xx x ρ μ) : DSs X sts ρ μ D' := fun ad σ H Dc R C =>
  h ad σ H Dc R ⟨fun ad2 σ' H' ρ' μ' s R' d => C.nx ad2 σ' H' ρ' μ' s R' (hn _ _ d), fun ad2 σ' H' ρ' μ' s R' d => C.bk ad2 σ' H' ρ' μ' s R' (hb _ _ d), fun ad2 σ' H' ρ' μ' s R' d => C.ct ad2 σ' H' ρ' μ' s R' (hc _ _ d),
    fun ad2 v H' p μ' s m r d => C.rt ad2 v H' p μ' s m r (hr _ _ d), fun ad2 σ' H' ρ' μ' x cls dd s R' r d => C.xx ad2 σ' H' ρ' μ' x cls dd s R' r (hx _ _ _ d)⟩
/-- slots forgotten -/
theorem DSs.weak (hl : ρ'.length = ρ.length) (w : ∀ (i : Nat) p, ρ'[i]? = some (some p) → ρ[i]? = some (some p)) (h : DSs X sts ρ' μ D) : DSs X sts ρ μ D := fun ad σ H Dc R C =>
  h ad σ H Dc ⟨R.m, R.e.weak hl w⟩ C
theorem DS.ret (h : DE X e ρ μ p μ') (hr : D.rt p μ') : DS X (.Return (some e) pos) ρ μ D := fun ad σ H Dc R C =>
  wS.of (ps_ret (pe_w e)) (h ad σ H _ R fun ad2 v H' s m r => C.rt ad2 v H' p μ' s m r hr)
theorem DS.brk (h : D.bk ρ μ) : DS X (.Break pos) ρ μ D := fun ad σ H Dc R C => wS.of ps_break (C.bk [] σ H ρ μ Stp.refl (by rwa [AD.append_nil]) h)
theorem DS.cont (h : D.ct ρ μ) : DS X (.Continue pos) ρ μ D := fun ad σ H Dc R C => wS.of ps_continue (C.ct [] σ H ρ μ Stp.refl (by rwa [AD.append_nil]) h)
theorem DS.never (h : False) : DS X st ρ μ D := h.elim
theorem DS.expr (h : DE X e ρ μ p μ') (hn : D.nx ρ μ') (hs : swapsWith e none pos.line X.env = pure false := by rfl) : DS X (.Expr e pos) ρ μ D := fun ad σ H Dc R C =>
  wS.of (ps_expr (pe_w e) hs) (h ad σ H _ R fun ad2 v H' s m r => C.nx ad2 σ H' ρ μ' s (R.mono s m) hn)
/-- an if, its two ways -/
theorem DS.ife {A B : List Stmt} (hc : DT X c ρ μ k μ1) (ht : k = true → DSs X A ρ μ1 D) (hf : k = false → DSs X B ρ μ1 D) : DS X (.If c A B pos) ρ μ D := fun ad σ H Dc R C =>
  wS.of (ps_if (pt_w c) (pss_w A) (pss_w B)) (hc ad σ H _ R fun ad2 H' s m => by
    cases k with
    | true => exact iteT (ht rfl _ σ H' Dc (R.mono s m) (C.step s))
    | false => exact iteF (hf rfl _ σ H' Dc (R.mono s m) (C.step s)))

/-! ### targets -/
theorem DG.name {i : Nat} (hg : PG X tg (gName i)) : DG X tg p ρ μ (ρ.set i (some p)) := fun ad σ H v Q R r h =>
  wG.of hg (h _ ⟨R.m, R.e.set i r⟩)
/-- targets one after another -/
def DGs (X : Cx) (ts : List Expr) (ps : List PV) (ρ : Env) (μ : Mem) (ρ' : Env) : Prop :=
  ∃ t, PGs X ts t ∧ ∀ ad σ H vs (Q : L2.St → Hp → Prop), Rst ad X.K H σ ρ μ → RpL ad X.K H ps vs → (∀ σ', Rst ad X.K H σ' ρ' μ → Q σ' H) → t vs σ H Q
theorem DGs.nil : DGs X [] [] ρ μ ρ := ⟨gNil, pgs_nil, fun ad σ H vs Q R r h => by
  unfold RpL at r
  exact ⟨r, h σ R⟩⟩
theorem DGs.cons {ρ1 ρ2 : Env} {ps : List PV} (h : DG X e p ρ μ ρ1) (t : DGs X es ps ρ1 μ ρ2) (hs : assignEach (e :: es) X.env = (false, assign e X.env) :: assignEach es X.env := by rfl) : DGs X (e :: es) (p :: ps) ρ μ ρ2 := by
  obtain ⟨tt, hp, ht⟩ := t
  refine ⟨_, pgs_cons (pg_w e) hp (by first | exact hs | (rw [hs]; rfl)), fun ad σ H vs Q R r hQ => ?_⟩
  unfold RpL at r
  obtain ⟨v, vs', e1, r1, r2⟩ := r
  exact ⟨v, vs', e1, h ad σ H v _ R r1 fun σ1 R1 => ht ad σ1 H vs' Q R1 r2 hQ⟩
theorem DG.tup {ps : List PV} {j : Nat} (hc : X.calm = true) (h : DGs X es ps ρ μ ρ') (hn : (assignEach es X.env).length = ps.length := by rfl) (hst : (assignEach es X.env).findIdx? (·.1) = none := by rfl) : DG X (.Tuple es j pos) (.tup ps) ρ μ ρ' := by
  obtain ⟨tt, hp, ht⟩ := h
  intro ad σ H v Q R r hQ
  obtain ⟨a, vs, e1, h1, r1⟩ := r.tup_inv
  exact wG.of (pg_tup (n := ps.length) hc hp hn hst) ⟨a, vs, e1, h1, r1.length.symm, ht ad σ H vs Q R r1 hQ⟩
/-- name = value -/
theorem DS.set {i : Nat} {x : Str} {pos' : Pos} (hN : X.N.Nodup) (hi : X.N[i]? = some x) (hx : Loc X.env.scope x ∧ (X.fn x = true ∨ X.env.scope.names.lookup x = some .local)) (h : DE X e ρ μ p μ1) (hn : D.nx (ρ.set i (some p)) μ1)
    (hs : swapsWith e (some (.Name x pos')) pos.line X.env = pure false := by rfl) : DS X (.Assign [.Name x pos'] e pos) ρ μ D := fun ad σ H Dc R C =>
  wS.of (ps_set hN hi hx.1 (pe_w e) hs hx.2) (h ad σ H _ R fun ad2 v H' s m r => C.nx ad2 _ H' _ μ1 s ⟨m, (R.mono s m).e.set i r⟩ hn)
/-- xs[i] = value, xs a list object -/
theorem DS.setI {n : Nat} {i : Int} {j : Nat} {xs : List PV} {sp : Pos} (hv : DE X e ρ μ p μ1) (ho : DE X a ρ μ1 (.obj n) μ1) (hi : DE X b ρ μ1 (.int i) μ2) (hm : μ2[n]? = some (.lst xs)) (hj : ixN xs.length i = some j)
    (hn : D.nx ρ (μ2.set n (.lst (xs.set j p))))
    (ha : ∀ v, assign (.Subscript a b sp) X.env v = (do
      let ov ← holding [v] (eval a X.env)
      let iv ← holding [v, ov] (eval b X.env)
      standAt sp
      holding [v, ov, iv] (setItem ov iv v)
      release [v, ov, iv] []) := by intro _; rfl)
    (hs : swapsWithSole [.Subscript a b sp] e pos.line X.env = pure false := by rfl) (hw : swappedStores [.Subscript a b sp] e X.env = pure none := by rfl) (h1 : (assignEach [.Subscript a b sp] X.env).map (·.2) = [assign (.Subscript a b sp) X.env] := by rfl) :
    DS X (.Assign [.Subscript a b sp] e pos) ρ μ D := fun ad σ H Dc R C => by
  refine wS.of (ps_asg (pe_w e) (pg_sub (pe_w a) (pe_w b) set_list ha) hs hw h1) (hv ad σ H _ R fun ad1 v H1 s1 m1 r1 => ?_)
  refine ho (ad ++ ad1) σ H1 _ (R.mono s1 m1) fun ad2 o H2 s2 m2 r2 => ?_
  refine hi (ad ++ ad1 ++ ad2) σ H2 _ ((R.mono s1 m1).mono s2 m2) fun ad3 iv H3 s3 m3 r3 => ?_
  obtain ⟨l, e1, h1⟩ := (r2.mono s3).obj_inv
  obtain ⟨vs, hvs, rl⟩ := m3.mem n l _ h1 hm
  refine ⟨l, vs, i, j, e1, r3.int_inv, hvs, by rw [← rl.length]; exact hj, ?_⟩
  have s4 : Stp (ad ++ ad1 ++ ad2 ++ ad3) [] H3 (upd H3 l (.lst (vs.set j v))) := Stp.write h1
  have m4 := m3.write (o := .lst (vs.set j v)) (m := .lst (xs.set j p)) h1 ⟨_, upd_same, (rl.set j ((r1.mono s2).mono s3)).wr h1⟩
  have R3 : Rst (ad ++ ad1 ++ ad2 ++ ad3) X.K H3 σ ρ μ2 := ((R.mono s1 m1).mono s2 m2).mono s3 m3
  have m4' : Mst (ad ++ ad1 ++ ad2 ++ ad3 ++ ([] : List Addr)) X.K (upd H3 l (.lst (vs.set j v))) (μ2.set n (.lst (xs.set j p))) := by rw [AD.append_nil]; exact m4
  exact (((C.step s1).step s2).step s3).nx [] σ _ ρ _ s4 (R3.mono s4 m4') hn
end
end L3

namespace L3
open PySem PySem.Spec L2
section
variable {X : Cx} {ad : AD} {ad2 : List Addr} {σ : L2.St} {H H' : Hp} {ρ ρ' : Env} {μ μ1 μ2 μ' : Mem} {p q r : PV} {e a b c tg : Expr} {es : List Expr} {pos cp : Pos} {k : Bool} {D : AEnds} {Dc : Ends} {st : Stmt} {sts : List Stmt}

/-! ### while -/
/-! ### what is walked -/
/-- from ad, H on the iterator J goes along the data xs, while M holds of the store -/
def WalkD (K : PySem.W.Frag) (ad : AD) (H : Hp) (J : It) (xs : List PV) (M : Mem → Prop) : Prop :=
  ∀ ad' H1 μ1, Keep K ad H ad' H1 → Mst ad' K H1 μ1 → M μ1 → (∀ i, i < xs.length → J.go i H1) ∧ J.stop xs.length H1 ∧
    ∀ (i : Nat) p x H2, xs[i]? = some p → J.yld i H1 x H2 → Stp ad' [] H1 H2 ∧ Mst ad' K H2 μ1 ∧ Rp ad' K H2 p x ∧ Keep K ad' H1 ad' H2
def DI (X : Cx) (tg iter : Expr) (ρ : Env) (μ : Mem) (xs : List PV) (M : Mem → Prop) (μ' : Mem) : Prop :=
  ∃ wi, PI X tg iter wi ∧ ∀ ad σ H (R : It → Hp → Prop), Rst ad X.K H σ ρ μ → (∀ ad2 J H', Stp ad ad2 H H' → Mst (ad ++ ad2) X.K H' μ' → WalkD X.K (ad ++ ad2) H' J xs M → R J H') → wi σ H R
theorem WalkD.list {K : PySem.W.Frag} {M : Mem → Prop} {l : Addr} {xs : List PV} (h : ∀ ad' H1 μ1, Keep K ad H ad' H1 → Mst ad' K H1 μ1 → M μ1 → ∃ vs, SqL K H1 l vs ∧ RpL ad' K H1 xs vs) : WalkD K ad H (Itl K l) xs M := fun adx H1 μ1 s m hM => by
  obtain ⟨vs, hs, r⟩ := h adx H1 μ1 s m hM
  have w := walk_list (K := K) (a := l) (xs := vs)
  refine ⟨fun i hi => w.goes i H1 (by rw [← r.length]; exact hi) hs, by rw [r.length]; exact w.stops H1 hs, fun i p x H2 e y => ?_⟩
  have hi : i < vs.length := by rw [← r.length]; exact (List.getElem?_eq_some_iff.mp e).1
  obtain ⟨e1, e2⟩ := w.yields i H1 x H2 hi hs y
  subst e1
  obtain ⟨v, e3, r3⟩ := r.get e
  rw [e2] at e3
  cases e3
  exact ⟨Stp.refl, m, r3, fun _ _ z => z⟩
theorem WalkD.tuple {K : PySem.W.Frag} {M : Mem → Prop} {l : Addr} {xs : List PV} (h : ∀ ad' H1 μ1, Keep K ad H ad' H1 → Mst ad' K H1 μ1 → M μ1 → ∃ vs, SqT K H1 l vs ∧ RpL ad' K H1 xs vs) : WalkD K ad H (Itt K l) xs M := fun adx H1 μ1 s m hM => by
  obtain ⟨vs, hs, r⟩ := h adx H1 μ1 s m hM
  have w := walk_tup (K := K) (a := l) (xs := vs)
  refine ⟨fun i hi => w.goes i H1 (by rw [← r.length]; exact hi) hs, by rw [r.length]; exact w.stops H1 hs, fun i p x H2 e y => ?_⟩
  have hi : i < vs.length := by rw [← r.length]; exact (List.getElem?_eq_some_iff.mp e).1
  obtain ⟨e1, e2⟩ := w.yields i H1 x H2 hi hs y
  subst e1
  obtain ⟨v, e3, r3⟩ := r.get e
  rw [e2] at e3
  cases e3
  exact ⟨Stp.refl, m, r3, fun _ _ z => z⟩
/-- the items of a list, as long as it stays -/
def Keeps (p : PV) (xs : List PV) : Mem → Prop := fun μ => asL μ p = some xs
theorem Rp.seq_stays {K : PySem.W.Frag} {xs : List PV} {v : V} (r : Rp ad K H p v) (e : asL μ p = some xs) (m : Mst ad K H μ) : ∃ l, v = .ref l ∧ (∃ vs, SqL K H l vs) ∧ ∀ ad' H1 μ1, Keep K ad H ad' H1 → Mst ad' K H1 μ1 → Keeps p xs μ1 → ∃ vs, SqL K H1 l vs ∧ RpL ad' K H1 xs vs := by
  obtain ⟨l, vs, e1, h1, r1⟩ := r.asL_inv e m
  refine ⟨l, e1, ⟨vs, h1⟩, fun ad' H1 μ1 s m1 hk => ?_⟩
  obtain ⟨l', vs', e2, h2, r2⟩ := (s p v r).asL_inv hk m1
  rw [e1] at e2
  cases e2
  exact ⟨vs', h2, r2⟩
theorem DI.list {xs : List PV} (h : DE X e ρ μ p μ1) (hl : asL μ1 p = some xs) : DI X tg e ρ μ xs (Keeps p xs) μ1 :=
  ⟨_, pi_list (pe_w e), fun ad σ H Q R hQ => h ad σ H _ R fun ad2 v H' s m r => by
    obtain ⟨l, e1, h1, h2⟩ := r.seq_stays hl m
    exact ⟨l, e1, h1, hQ ad2 _ H' s m (WalkD.list h2)⟩⟩
theorem DI.tuple {xs : List PV} (h : DE X e ρ μ (.tup xs) μ1) : DI X tg e ρ μ xs (fun _ => True) μ1 :=
  ⟨_, pi_tup (pe_w e), fun ad σ H Q R hQ => h ad σ H _ R fun ad2 v H' s m r => by
    obtain ⟨l, vs, e1, h1, r1⟩ := r.tup_inv
    refine ⟨l, e1, ⟨vs, h1⟩, hQ ad2 _ H' s m (WalkD.tuple fun ad' H1 μ1 s1 m1 _ => ?_)⟩
    obtain ⟨l', vs', e2, h2, r2⟩ := (s1 _ _ r).tup_inv
    rw [e1] at e2
    cases e2
    exact ⟨vs', h2, r2⟩⟩
/-- the rngL lo, lo + 1, .. below hi -/
def rngL (lo : Int) (n : Nat) : List PV := (List.range n).map fun i => .int (lo + (i : Nat))
theorem rngL_length {lo : Int} {n : Nat} : (rngL lo n).length = n := by simp [rngL]
theorem rngL_get {lo : Int} {n i : Nat} {p : PV} (h : (rngL lo n)[i]? = some p) : p = .int (lo + (i : Nat)) := by
  unfold rngL at h
  rw [List.getElem?_map] at h
  obtain ⟨j, hj, e⟩ := Option.map_eq_some_iff.mp h
  obtain ⟨h1, h2⟩ := List.getElem?_eq_some_iff.mp hj
  simp at h2
  subst h2
  exact e.symm
theorem WalkD.range {K : PySem.W.Frag} {lo : Int} {n : Nat} : WalkD K ad H (Itr lo n) (rngL lo n) (fun _ => True) := fun ad' H1 μ1 s m _ => by
  refine ⟨fun i hi => by rw [rngL_length] at hi; exact hi, by rw [rngL_length]; exact Nat.le_refl _, fun i p x H2 e y => ?_⟩
  obtain ⟨e1, e2⟩ := y
  subst e1
  rw [rngL_get e, e2]
  exact ⟨Stp.refl, m, Rp.int' _, fun _ _ z => z⟩
theorem RpL.one_int {K : PySem.W.Frag} {i : Int} {vs : List V} (r : RpL ad K H [.int i] vs) : vs = [.int i] := by
  unfold RpL at r
  obtain ⟨v, w, e1, r1, r2⟩ := r
  unfold RpL at r2
  rw [e1, r1.int_inv, r2]
theorem RpL.two_int {K : PySem.W.Frag} {i j : Int} {vs : List V} (r : RpL ad K H [.int i, .int j] vs) : vs = [.int i, .int j] := by
  unfold RpL at r
  obtain ⟨v, w, e1, r1, r2⟩ := r
  rw [e1, r1.int_inv, r2.one_int]
theorem DI.range1 {j : Int} {cp : Pos} (hg : Gl X "range") (hm : X.mg "range" = none) (h : DE X a ρ μ (.int j) μ1) (h1 : -(2 ^ 62) ≤ j) (h2 : j < 2 ^ 62) (hs : starEach [a] X.env = [(false, eval a X.env)] := by rfl) :
    DI X tg (.Call (.Name "range" cp) [a] [] pos) ρ μ (rngL 0 j.toNat) (fun _ => True) μ1 :=
  ⟨_, pi_range1 hg hm (pa_w [a]) hs, fun ad σ H Q R hQ => DA.cons h DA.nil (by rw [hs]; rfl) ad σ H _ R fun ad2 vs H' s m r => ⟨j, r.one_int, h1, h2, hQ ad2 _ H' s m WalkD.range⟩⟩
/-- a for, by its invariant -/
theorem DS.for {body : List Stmt} {iter : Expr} {xs : List PV} {M : Mem → Prop} (po : PassesOwn (model X.prog X.w) X.A X.env X.xe) (hc : X.calm = true) (hi : DI X tg iter ρ μ xs M μ1) (Iv : Nat → Env → Mem → Prop) (h0 : Iv 0 ρ μ1)
    (hM : ∀ i ρ μ, i ≤ xs.length → Iv i ρ μ → M μ)
    (hs : ∀ (i : Nat) p ρ μ, xs[i]? = some p → Iv i ρ μ → ∃ ρ', DG X tg p ρ μ ρ' ∧ DSs X body ρ' μ { nx := Iv (i + 1), ct := Iv (i + 1), bk := D.nx, rt := D.rt, xx := D.xx })
    (hd : ∀ ρ μ, Iv xs.length ρ μ → D.nx ρ μ) (hfs : ∀ x, foldedSetIterable iter X.env x = pure x := by intro _; rfl) : DS X (.For tg iter body [] pos) ρ μ D := fun ad σ H Dc R C => by
  obtain ⟨wi, hpi, hwi⟩ := hi
  refine wS.of (ps_for po hc hpi (pg_w tg) (pss_w body) hfs) (hwi ad σ H _ R fun ad1 J H1 s1 m1 w => ?_)
  have C1 := C.step s1
  refine ⟨fun i m σ' H' => m = xs.length - i ∧ i ≤ xs.length ∧ ∃ adx ρ' μ', Stp (ad ++ ad1) adx H1 H' ∧ Rst (ad ++ ad1 ++ adx) X.K H' σ' ρ' μ' ∧ Iv i ρ' μ', ⟨_, rfl, Nat.zero_le _, [], ρ, μ1, Stp.refl, by rw [AD.append_nil]; exact R.mono s1 m1, h0⟩, ?_⟩
  rintro i m σ' H' ⟨rfl, hle, adx, ρ2, μ2, s2, R2, i2⟩
  obtain ⟨w1, w2, w3⟩ := w _ H' μ2 s2.kept R2.m (hM i ρ2 μ2 hle i2)
  by_cases hlt : i < xs.length
  · refine .inr ⟨w1 i hlt, fun σ3 H3 => ∃ adx ρ' μ', Stp (ad ++ ad1) adx H1 H3 ∧ Rst (ad ++ ad1 ++ adx) X.K H3 σ3 ρ' μ' ∧ Iv (i + 1) ρ' μ', fun σ3 H3 ⟨adz, ρ3, μ3, s3, R3, i3⟩ => ⟨xs.length - (i + 1), by omega, rfl, hlt, adz, ρ3, μ3, s3, R3, i3⟩, fun x H2 y => ?_⟩
    have e : xs[i]? = some xs[i] := by simp [hlt]
    obtain ⟨s3, m3, r3, _⟩ := w3 i _ x H2 e y
    obtain ⟨ρ3, hg, hbody⟩ := hs i _ ρ2 μ2 e i2
    have R3 : Rst (ad ++ ad1 ++ adx) X.K H2 σ' ρ2 μ2 := by
      have := R2.mono s3 (by rw [AD.append_nil]; exact m3)
      rwa [AD.append_nil] at this
    refine hg _ σ' H2 x _ R3 r3 fun σ4 R4 => ?_
    have C2 : Cov X (ad ++ ad1 ++ adx) H2 D Dc := by
      have := (C1.step s2).step s3
      rwa [AD.append_nil] at this
    have s23 : Stp (ad ++ ad1) adx H1 H2 := by
      have := s2.trans s3
      rwa [List.append_nil] at this
    refine hbody _ σ4 H2 _ R4 ⟨fun ad3 σ3 H3 ρ3 μ3 s3 R3 d3 => ?_, fun ad3 σ3 H3 ρ3 μ3 s3 R3 d3 => C2.nx ad3 σ3 H3 ρ3 μ3 s3 R3 d3, fun ad3 σ3 H3 ρ3 μ3 s3 R3 d3 => ?_, C2.rt, C2.xx⟩
    · exact ⟨adx ++ ad3, ρ3, μ3, s23.trans s3, by rw [← AD.append_assoc]; exact R3, d3⟩
    · exact ⟨adx ++ ad3, ρ3, μ3, s23.trans s3, by rw [← AD.append_assoc]; exact R3, d3⟩
  · have e : i = xs.length := by omega
    subst e
    exact .inl ⟨w2, C1.nx adx σ' H' ρ2 μ2 s2 R2 (hd _ _ i2)⟩
end
end L3

namespace L3
open PySem PySem.Spec L2

/-- a def's promise over data: arguments, store, wanted end, wanted exception -/
abbrev ASp := List PV → Mem → (PV → Mem → Prop) → (EX → Mem → Prop) → Prop
def conc (K : PySem.W.Frag) (A : ASp) : Sp := fun vs H Q E => ∃ (ad : AD) (μ : Mem) (args : List PV) (Qa : PV → Mem → Prop) (Ea : EX → Mem → Prop),
  Mst ad K H μ ∧ RpL ad K H args vs ∧ A args μ Qa Ea ∧
  (∀ ad2 H' μ' r v, Stp ad ad2 H H' → Mst (ad ++ ad2) K H' μ' → Rp (ad ++ ad2) K H' r v → Qa r μ' → Q v H') ∧
  (∀ ad2 H' μ' x cls d, Stp ad ad2 H H' → Mst (ad ++ ad2) K H' μ' → RpX (ad ++ ad2) K H' x cls d → Ea x μ' → E cls d H')

/-- the def of the module's name x, of n parameters, keeps A, at level k -/
structure FnA (P : Program) (w : World) (K : PySem.W.Frag) (mg : Str → Option Value) (base : Heap) (k : Nat) (x : Str) (A : ASp) : Prop where
  ex : ∃ (f : Addr) (fd : FuncData) (ps : List Str), FnOk P w K mg base (L2.CX P w) k f fd ps (conc K A) ∧ mg x = some (.ref f) ∧ PySem.W.keepIn K (.ref f) = true ∧ Binds K fd ps []

/-! ### contexts -/
def visB (sc : Scope) (x : Str) : Bool := match sc.names.lookup x with
  | some .local => true
  | some .cell => true
  | some .free => true
  | _ => false
def stoB (sc : Scope) (x : Str) : Bool := match sc.names.lookup x with
  | some .local => true
  | some .cell => true
  | _ => false
structure CxD (X : Cx) (P : Program) (w : World) (K : PySem.W.Frag) (mg : Str → Option Value) (base : Heap) (N : List Str) (sc : Scope) (k : Nat) : Prop where
  eP : X.prog = P
  ew : X.w = w
  eK : X.K = K
  emg : X.mg = mg
  eb : X.base = base
  eN : X.N = N
  vis : ∀ x, visB sc x = true → Vis X.env.scope x
  sto : ∀ x, stoB sc x = true → Loc X.env.scope x ∧ (X.fn x = true ∨ X.env.scope.names.lookup x = some .local)
  loc : ∀ x, sc.names.lookup x = some .local → X.env.scope.names.lookup x = some .local
  gl : ∀ x, sc.names.lookup x = some .globalImplicit → Gl X x
  calm : X.calm = true
  room : Room k X.A
structure CxF (X : Cx) (P : Program) (w : World) (K : PySem.W.Frag) (mg : Str → Option Value) (base : Heap) (N : List Str) (sc : Scope) (k : Nat) : Prop extends CxD X P w K mg base N sc k where
  esc : X.env.scope = sc
  po : PassesOwn (model X.prog X.w) X.A X.env X.xe
  nd : N.Nodup
  kind : sc.kind = .function
  stk : X.stack = X.env :: X.outer
  frm : X.env.frame = some X.env.locals
theorem vis_of {sc : Scope} {x : Str} (h : visB sc x = true) : Vis sc x := by
  unfold visB at h
  cases e : sc.names.lookup x with
  | none => rw [e] at h; cases h
  | some k =>
    rw [e] at h
    cases k with
    | «local» => exact .inl e
    | cell => exact .inr (.inl e)
    | free => exact .inr (.inr e)
    | _ => cases h
theorem loc_of {sc : Scope} {x : Str} (h : stoB sc x = true) : Loc sc x := by
  unfold stoB at h
  cases e : sc.names.lookup x with
  | none => rw [e] at h; cases h
  | some k =>
    rw [e] at h
    cases k with
    | «local» => exact .inl e
    | cell => exact .inr e
    | _ => cases h
section
variable {X : Cx} {P : Program} {w : World} {K : PySem.W.Frag} {mg : Str → Option Value} {base : Heap} {N : List Str} {sc : Scope} {k j : Nat} {x : Str} {A : ASp} {ρ ρ' : Env} {μ μ1 μ2 μ' : Mem} {p q r : PV} {e a b : Expr} {es : List Expr} {pos cp : Pos} {D : AEnds}
theorem CxD.var (cx : CxD X P w K mg base N sc k) (i : Nat) (hN : N[i]? = some x) (hs : visB sc x = true) (hd : (x == ("__debug__" : Str)) = false := by decide) (hcd : (x == ("__classdict__" : Str)) = false := by decide) : ∀ {pos : Pos}, PE X (.Name x pos) (tVar i) :=
  fun {pos} => pe_var (by rw [cx.eN]; exact hN) (cx.vis x hs) hd hcd
theorem CxF.nd' (cx : CxF X P w K mg base N sc k) : X.N.Nodup := by rw [cx.eN]; exact cx.nd
theorem CxF.tgt (cx : CxF X P w K mg base N sc k) (i : Nat) (hN : N[i]? = some x) (hs : stoB sc x = true) : ∀ {pos : Pos}, PG X (.Name x pos) (gName i) :=
  fun {pos} => pg_name cx.nd' (by rw [cx.eN]; exact hN) (cx.sto x hs).1 (cx.sto x hs).2
theorem CxF.set (cx : CxF X P w K mg base N sc k) (i : Nat) (hN : N[i]? = some x) (hs : stoB sc x = true) {pos pos' : Pos} (h : DE X e ρ μ p μ1) (hn : D.nx (ρ.set i (some p)) μ1)
    (hsw : swapsWith e (some (.Name x pos')) pos.line X.env = pure false := by rfl) : DS X (.Assign [.Name x pos'] e pos) ρ μ D :=
  DS.set cx.nd' (by rw [cx.eN]; exact hN) (cx.sto x hs) h hn hsw
theorem passE0 : Passes (L2.CX X.prog X.w) X (fun _ _ _ => False) := fun _ _ _ _ _ _ _ h => by
  obtain ⟨_, _, _, _, _, _, _, _, _, _, _, _, hE⟩ := h
  exact hE.elim
theorem CxD.fn (cx : CxD X P w K mg base N sc k) (F : FnA P w K mg base j x A) : ∃ (f : Addr) (fd : FuncData) (ps : List Str), FnOk X.prog X.w X.K X.mg X.base (L2.CX X.prog X.w) j f fd ps (conc X.K A) ∧ X.mg x = some (.ref f) ∧ PySem.W.keepIn X.K (.ref f) = true ∧ Binds X.K fd ps [] := by
  rw [cx.eP, cx.ew, cx.eK, cx.emg, cx.eb]
  exact F.ex
/-- f(e, ..) -/
theorem DE.call (cx : CxD X P w K mg base N sc k) {ps : List PV} (F : FnA P w K mg base j x A) (hj : j ≤ k) (hx : sc.names.lookup x = some .globalImplicit) (ha : DA X (e :: es) ρ μ ps μ1)
    (hA : A ps μ1 (fun r m => r = p ∧ m = μ2) (fun _ _ => False))
    (hdb : (x == ("__debug__" : Str)) = false := by decide) (he : starEach (e :: es) X.env = (false, eval e X.env) :: starEach es X.env := by rfl) (hpl : (backTo pos (starEach es X.env)).any (·.1) = false := by rfl) :
    DE X (.Call (.Name x cp) (e :: es) [] pos) ρ μ p μ2 := fun ad σ H Q R f => by
  obtain ⟨fa, fd, pn, F1, hm, hk, hb⟩ := cx.fn F
  refine wE.of (pe_call F1 (cx.room.mono hj) (cx.gl x hx) hm hk hb .nil passE0 (pa_w _) hdb he hpl) (ha ad σ H _ R fun ad1 vs H1 s1 m1 r1 => ?_)
  rw [List.append_nil]
  refine ⟨ad ++ ad1, μ1, ps, _, _, m1, r1, hA, fun ad2 H' μ' r v s m rr hq => ?_, fun _ _ _ _ _ _ _ _ _ h => h.elim⟩
  obtain ⟨rfl, rfl⟩ := hq
  exact f (ad1 ++ ad2) v H' (s1.trans s) (by rwa [← AD.append_assoc]) (by rwa [← AD.append_assoc])
/-! ### the end of a def: what it made is let go -/
mutual
def below (n : Nat) : PV → Bool
  | .tup xs => belowL n xs
  | .lst xs => belowL n xs
  | .scr xs => belowL n xs
  | .wtp xs => belowL n xs
  | .dct _ xs => belowL n xs
  | .exc _ _ xs => belowL n xs
  | .obj k => decide (k < n)
  | _ => true
def belowL (n : Nat) : List PV → Bool
  | [] => true
  | p :: ps => below n p && belowL n ps
end
def belowM (n : Nat) : MO → Bool
  | .lst xs => belowL n xs
  | .dK _ xs => belowL n xs
  | .dT _ xs => belowL n xs
  | .ins _ _ xs => belowL n xs
  | .dead => true
  | .lk _ _ xs => belowL n xs
/-- the first n objects -/
def AD.first (a : AD) (n : Nat) : AD := ⟨a.n, a.l.take (a.n + n)⟩
theorem notIn_take {l : AD} {a : Addr} {n : Nat} (h : a ∉ l) : a ∉ l.first n := fun z => h (List.mem_of_mem_take z)
theorem AD.first_app {a : AD} {b : List Addr} {n : Nat} (h : a.l.length = a.n + n) : (a ++ b).first n = a := by
  show AD.mk a.n ((a.l ++ b).take (a.n + n)) = a
  rw [List.take_left' h]
mutual
theorem Rp.down {K : PySem.W.Frag} {ad : AD} {H : Hp} {n : Nat} : ∀ (p : PV) (v : V), below n p = true → Rp ad K H p v → Rp (ad.first n) K H p v
  | .non, v, _, h => by unfold Rp at h ⊢; exact h
  | .bl b, v, _, h => by unfold Rp at h ⊢; exact h
  | .int i, v, _, h => by unfold Rp at h ⊢; exact h
  | .str x, v, _, h => by unfold Rp at h ⊢; exact h
  | .tup xs, v, hb, h => by
    unfold Rp at h ⊢
    obtain ⟨a, vs, e, h1, h2⟩ := h
    refine ⟨a, vs, e, ?_, RpL.down xs vs (by unfold below at hb; exact hb) h2⟩
    rcases h1 with ⟨x, y⟩ | x
    · exact .inl ⟨x, notIn_take y⟩
    · exact .inr x
  | .lst xs, v, hb, h => by
    unfold Rp at h ⊢
    obtain ⟨a, vs, e, ⟨x, y⟩, h2⟩ := h
    exact ⟨a, vs, e, ⟨x, notIn_take y⟩, RpL.down xs vs (by unfold below at hb; exact hb) h2⟩
  | .scr xs, v, hb, h => by
    unfold Rp at h ⊢
    obtain ⟨a, vs, e, h1, h2⟩ := h
    refine ⟨a, vs, e, ?_, RpL.down xs vs (by unfold below at hb; exact hb) h2⟩
    rcases h1 with ⟨x, y⟩ | x
    · exact .inl ⟨x, notIn_take y⟩
    · exact .inr x
  | .wtp xs, v, hb, h => by
    unfold Rp at h ⊢
    obtain ⟨a, vs, e, h1, h2⟩ := h
    exact ⟨a, vs, e, h1, RpL.down xs vs (by unfold below at hb; exact hb) h2⟩
  | .dct ks xs, v, hb, h => by
    unfold Rp at h ⊢
    obtain ⟨a, vs, e, ⟨x, y⟩, hl, h2⟩ := h
    exact ⟨a, vs, e, ⟨x, notIn_take y⟩, hl, RpL.down xs vs (by unfold below at hb; exact hb) h2⟩
  | .obj k, v, hb, h => by
    unfold Rp at h ⊢
    obtain ⟨a, e, h1⟩ := h
    unfold below at hb
    refine ⟨a, e, ?_⟩
    show (ad.l.take (ad.n + n))[ad.n + k]? = some a
    have hk : k < n := of_decide_eq_true hb
    rw [List.getElem?_take, if_pos (by omega)]
    exact h1
  | .exc C fs xs, v, hb, h => by
    unfold Rp at h ⊢
    obtain ⟨a, d, vs, e, ⟨x, y⟩, hd, hl, h2⟩ := h
    refine ⟨a, d, vs, e, ⟨x, notIn_take y⟩, ?_, hl, RpL.down xs vs (by unfold below at hb; exact hb) h2⟩
    cases d with
    | none => exact hd
    | some dd => exact ⟨hd.1, notIn_take hd.2⟩
  | .exm C m, v, hb, h => by
    unfold Rp at h ⊢
    obtain ⟨a, t, e, ⟨x, y⟩, x2, y2⟩ := h
    exact ⟨a, t, e, ⟨x, notIn_take y⟩, x2, notIn_take y2⟩
theorem RpL.down {K : PySem.W.Frag} {ad : AD} {H : Hp} {n : Nat} : ∀ (ps : List PV) (vs : List V), belowL n ps = true → RpL ad K H ps vs → RpL (ad.first n) K H ps vs
  | [], vs, _, h => by unfold RpL at h ⊢; exact h
  | p :: ps, vs, hb, h => by
    unfold RpL at h ⊢
    obtain ⟨v, r, e, h1, h2⟩ := h
    unfold belowL at hb
    rw [Bool.and_eq_true] at hb
    exact ⟨v, r, e, Rp.down p v hb.1 h1, RpL.down ps r hb.2 h2⟩
end
mutual
theorem Rp.below_of {K : PySem.W.Frag} {ad : AD} {H : Hp} {n : Nat} (hal : ad.l.length = ad.n + n) : ∀ (p : PV) (v : V), Rp ad K H p v → below n p = true
  | .non, v, _ => by unfold below; rfl
  | .bl b, v, _ => by unfold below; rfl
  | .int i, v, _ => by unfold below; rfl
  | .str x, v, _ => by unfold below; rfl
  | .tup xs, v, h => by
    unfold Rp at h
    unfold below
    obtain ⟨a, vs, e, h1, h2⟩ := h
    exact RpL.below_of hal xs vs h2
  | .lst xs, v, h => by
    unfold Rp at h
    unfold below
    obtain ⟨a, vs, e, h1, h2⟩ := h
    exact RpL.below_of hal xs vs h2
  | .scr xs, v, h => by
    unfold Rp at h
    unfold below
    obtain ⟨a, vs, e, h1, h2⟩ := h
    exact RpL.below_of hal xs vs h2
  | .wtp xs, v, h => by
    unfold Rp at h
    unfold below
    obtain ⟨a, vs, e, h1, h2⟩ := h
    exact RpL.below_of hal xs vs h2
  | .dct ks xs, v, h => by
    unfold Rp at h
    unfold below
    obtain ⟨a, vs, e, h1, hl, h2⟩ := h
    exact RpL.below_of hal xs vs h2
  | .obj k, v, h => by
    unfold Rp at h
    unfold below
    obtain ⟨a, e, h1⟩ := h
    exact decide_eq_true (by have := AD.at_lt h1; omega)
  | .exc C fs xs, v, h => by
    unfold Rp at h
    unfold below
    obtain ⟨a, d, vs, e, h1, hd, hl, h2⟩ := h
    exact RpL.below_of hal xs vs h2
  | .exm C m, v, h => by unfold below; rfl
theorem RpL.below_of {K : PySem.W.Frag} {ad : AD} {H : Hp} {n : Nat} (hal : ad.l.length = ad.n + n) : ∀ (ps : List PV) (vs : List V), RpL ad K H ps vs → belowL n ps = true
  | [], vs, _ => by unfold belowL; rfl
  | p :: ps, vs, h => by
    unfold RpL at h
    unfold belowL
    obtain ⟨v, r, e, h1, h2⟩ := h
    rw [Rp.below_of hal p v h1, RpL.below_of hal ps r h2]
    rfl
end
theorem RpM.below_of {K : PySem.W.Frag} {ad : AD} {H : Hp} {c : Addr} {m : MO} {n : Nat} (hal : ad.l.length = ad.n + n) (h : RpM ad K H c m) : belowM n m = true := by
  cases m with
  | lst xs => obtain ⟨vs, e, r⟩ := h; exact r.below_of hal
  | dK ks xs => obtain ⟨vs, e, l, r⟩ := h; exact r.below_of hal
  | dT ks xs => obtain ⟨vs, e, l, r⟩ := h; exact r.below_of hal
  | ins C fs xs => obtain ⟨dx, vs, e, l, r⟩ := h; exact r.below_of hal
  | dead => rfl
  | lk o kvs xs => exact h.2.below_of hal
theorem RpM.down {K : PySem.W.Frag} {ad : AD} {H : Hp} {c : Addr} {m : MO} {n : Nat} (hb : belowM n m = true) (h : RpM ad K H c m) : RpM (ad.first n) K H c m := by
  cases m with
  | lst xs => obtain ⟨vs, e, r⟩ := h; exact ⟨vs, e, r.down _ _ hb⟩
  | dK ks xs => obtain ⟨vs, e, l, r⟩ := h; exact ⟨vs, e, l, r.down _ _ hb⟩
  | dT ks xs => obtain ⟨vs, e, l, r⟩ := h; exact ⟨vs, e, l, r.down _ _ hb⟩
  | ins C fs xs => obtain ⟨dx, vs, e, l, r⟩ := h; exact ⟨dx, vs, e, l, r.down _ _ hb⟩
  | dead => exact h
  | lk o kvs xs => exact ⟨h.1, h.2.down _ _ hb⟩
/-- what may have changed of the objects that stood at the entry -/
def Chg (μ0 μ' : Mem) : Prop := μ'.length = μ0.length ∧ ∀ (k : Nat) m, μ'[k]? = some m → μ0[k]? = some m ∨ belowM μ0.length m = true
theorem Chg.refl : Chg μ μ := ⟨rfl, fun _ _ h => .inl h⟩
theorem Chg.set {n : Nat} {m : MO} (c : Chg μ μ') (hb : belowM μ.length m = true) : Chg μ (μ'.set n m) := by
  refine ⟨by rw [List.length_set]; exact c.1, fun i u h => ?_⟩
  rw [List.getElem?_set] at h
  by_cases hi : n = i
  · rw [if_pos hi] at h
    split at h
    · cases h; exact .inr hb
    · cases h
  · rw [if_neg hi] at h
    exact c.2 i u h
/-- p at μ1 is handed back as r, the store is μ' -/
inductive Done (μ0 : Mem) : PV → Mem → PV → Mem → Prop
  | same (r : PV) (μ' : Mem) : Done μ0 r μ' r μ'
  | drop (r : PV) (μ' ex : Mem) (c : Chg μ0 μ') (b : below μ0.length r = true) : Done μ0 r (μ' ++ ex) r μ'
  | lst (n : Nat) (xs : List PV) (μ' ex : Mem) (c : Chg μ0 μ') (hn : μ0.length ≤ n) (e : (μ' ++ ex)[n]? = some (.lst xs)) (b : belowL μ0.length xs = true) : Done μ0 (.obj n) (μ' ++ ex) (.lst xs) μ'
theorem Mst.down {ad : AD} {ad2 : List Addr} {H H' : Hp} {μ0 ex : Mem} (m0 : Mst ad K H μ0) (s : Stp ad ad2 H H') (c : Chg μ0 μ') (m : Mst (ad ++ ad2) K H' (μ' ++ ex)) : Mst ad K H' μ' := by
  have hl := m0.len
  refine ⟨m0.nd, by rw [c.1]; exact hl, fun i a u e1 e2 => ?_, fun i a hi e => ?_, fun a ha xs => m.nt a (AD.mem_append.mpr (.inl ha)) xs⟩
  · have hi2 : i < μ'.length := (List.getElem?_eq_some_iff.mp e2).1
    have q := m.mem i a u (by rw [AD.at_append (AD.at_lt e1)]; exact e1) (by rw [List.getElem?_append_left hi2]; exact e2)
    have hb : belowM μ0.length u = true := by
      rcases c.2 i u e2 with z | z
      · exact (m0.mem i a u e1 z).below_of hl
      · exact z
    have := q.down hb
    rwa [AD.first_app hl] at this
  · obtain ⟨o, ho⟩ := m0.rsv i a hi e
    exact s.there a o ho
theorem Stp.less {ad : AD} {ad2 : List Addr} {H H' : Hp} (s : Stp ad ad2 H H') : Stp ad [] H H' := ⟨s.keep, s.there, fun _ h => nomatch h⟩
theorem Done.fin {ad : AD} {ad2 : List Addr} {H H' : Hp} {μ0 : Mem} {v : V} (d : Done μ0 p μ1 r μ') (m0 : Mst ad K H μ0) (s : Stp ad ad2 H H') (m : Mst (ad ++ ad2) K H' μ1) (rp : Rp (ad ++ ad2) K H' p v) :
    ∃ ad3, Stp ad ad3 H H' ∧ Mst (ad ++ ad3) K H' μ' ∧ Rp (ad ++ ad3) K H' r v := by
  cases d with
  | same => exact ⟨ad2, s, m, rp⟩
  | drop _ _ ex c b =>
    refine ⟨[], s.less, by rw [AD.append_nil]; exact m0.down s c m, ?_⟩
    rw [AD.append_nil]
    have := rp.down p v b
    rwa [AD.first_app m0.len] at this
  | lst n xs _ ex c hn e b =>
    refine ⟨[], s.less, by rw [AD.append_nil]; exact m0.down s c m, ?_⟩
    rw [AD.append_nil]
    obtain ⟨a, e1, h1⟩ := rp.obj_inv
    obtain ⟨vs, h2, r2⟩ := m.mem n a _ h1 e
    unfold Rp
    refine ⟨a, vs, e1, ⟨h2, fun hm => ?_⟩, ?_⟩
    · obtain ⟨i, hi, ei⟩ := List.mem_iff_getElem.mp hm
      have e3 : (ad ++ ad2).l[i]? = some a := by
        show (ad.l ++ ad2)[i]? = some a
        rw [List.getElem?_append_left hi]
        rw [← ei]
        simp [hi]
      have hne : i ≠ (ad ++ ad2).n + n := by
        show i ≠ ad.n + n
        have := m0.len
        omega
      exact m.ne e3 h1 hne rfl
    · have := r2.down xs vs b
      rwa [AD.first_app m0.len] at this
/-- a def's ends -/
def fnEnds (μ0 : Mem) (Q : PV → Mem → Prop) : AEnds where
  nx := fun _ μ1 => ∃ r μ', Done μ0 .non μ1 r μ' ∧ Q r μ'
  rt := fun p μ1 => ∃ r μ', Done μ0 p μ1 r μ' ∧ Q r μ'
def entry (N : List Str) (args : List PV) : Env := args.map some ++ List.replicate (N.length - args.length) none
theorem RpE.entry {ad : AD} {H : Hp} {args : List PV} {vs : List V} (r : RpL ad K H args vs) : RpE ad K H (entry N args) (L2.start N vs) := by
  have hl := r.length
  refine ⟨by unfold L3.entry L2.start; simp [hl], fun i p e => ?_⟩
  unfold L3.entry at e
  by_cases hi : i < args.length
  · rw [List.getElem?_append_left (by simpa using hi), List.getElem?_map] at e
    obtain ⟨q, hq, e2⟩ := Option.map_eq_some_iff.mp e
    cases e2
    obtain ⟨v, hv, rv⟩ := r.get hq
    refine ⟨v, ?_, rv⟩
    unfold L2.start
    rw [List.getElem?_append_left (by rw [List.length_map, ← hl]; exact hi), List.getElem?_map, hv]
    rfl
  · rw [List.getElem?_append_right (by simpa using hi)] at e
    rw [List.getElem?_replicate] at e
    split at e <;> cases e
/-- THE RULE for a def that raises nothing -/
theorem FnOk.ofA {qual : Str} {st : Stmt} {f : Addr} {fd : FuncData} {ps : List Str} (F : Fun K x qual st f fd) (S : FnScope N ps (defScope st))
    (len : ∀ args μ Q E, A args μ Q E → args.length = ps.length)
    (body : ∀ (X : Cx) (args : List PV) (μ : Mem) (Q : PV → Mem → Prop) (E : EX → Mem → Prop), CxF X P w K mg base N (defScope st) k → A args μ Q E → DSs X (defBody st) (entry N args) μ (fnEnds μ Q)) : FnOk P w K mg base (L2.CX P w) (k + 1) f fd ps (conc K A) := by
  obtain ⟨oc, od, kV, doc, pm, an, cdv, ct, osl, rfl, lk, hcd⟩ := F.ex
  refine fn_of (N := N) lk hcd S (fun vs H Q E h => ?_) fun A' outer s H vs Q E hr h => ?_
  · obtain ⟨ad, μ, args, Qa, Ea, m, r, hA, _⟩ := h
    rw [← r.length]
    exact len _ _ _ _ hA
  · obtain ⟨ad, μ, args, Qa, Ea, m, r, hA, hQ, _⟩ := h
    generalize hX : (cxOf (L2.CX P w) P w K mg base N qual (defScope st) f cdv A' outer s H E).nox = X
    refine ⟨wSs X (defBody st), ?_, ?_⟩
    · have := PSs.nox (X := cxOf (L2.CX P w) P w K mg base N qual (defScope st) f cdv A' outer s H E) (st := defBody st) (t := wSs X (defBody st)) (by rw [hX]; exact pss_w _)
      exact this
    · have cx : CxF X P w K mg base N (defScope st) k := by
        subst hX
        exact { eP := rfl, ew := rfl, eK := rfl, emg := rfl, eb := rfl, eN := rfl, vis := fun y hy => vis_of hy, sto := fun y hy => ⟨loc_of hy, .inl rfl⟩, loc := fun y hy => hy, gl := fun y hy => hy, calm := rfl, room := hr, esc := rfl, po := PassesOwn.never, nd := S.nd, kind := S.kind, stk := rfl, frm := rfl }
      refine body X args μ Qa Ea cx hA ad (L2.start N vs) H _ ⟨by rw [cx.eK]; exact m, by rw [cx.eK]; exact RpE.entry r⟩ ?_
      refine ⟨fun ad2 σ' H' ρ' μ' s2 R' d => ?_, fun _ _ _ _ _ _ _ d => d.elim, fun _ _ _ _ _ _ _ d => d.elim, fun ad2 v H' p μ' s2 m2 r2 d => ?_, fun _ _ _ _ _ _ _ _ _ _ _ d => d.elim⟩
      · obtain ⟨r', μ3, d1, d2⟩ := d
        have mm := R'.m
        rw [cx.eK] at mm
        obtain ⟨ad3, s3, m3, r3⟩ := d1.fin m s2 mm (Rp.non' (ad := ad ++ ad2) (K := K) (H := H'))
        exact hQ ad3 H' μ3 r' .non s3 m3 r3 d2
      · obtain ⟨r', μ3, d1, d2⟩ := d
        rw [cx.eK] at m2 r2
        obtain ⟨ad3, s3, m3, r3⟩ := d1.fin m s2 m2 r2
        exact hQ ad3 H' μ3 r' v s3 m3 r3 d2
theorem FnA.of {qual : Str} {st : Stmt} {f : Addr} {fd : FuncData} {ps : List Str} (F : Fun K x qual st f fd) (hm : mg x = some (.ref f)) (S : FnScope N ps (defScope st)) (B : Binds K fd ps [])
    (len : ∀ args μ Q E, A args μ Q E → args.length = ps.length)
    (body : ∀ (X : Cx) (args : List PV) (μ : Mem) (Q : PV → Mem → Prop) (E : EX → Mem → Prop), CxF X P w K mg base N (defScope st) k → A args μ Q E → DSs X (defBody st) (entry N args) μ (fnEnds μ Q)) : FnA P w K mg base (k + 1) x A :=
  ⟨f, fd, ps, FnOk.ofA F S len body, hm, F.kp, B⟩
end
end L3

namespace L3
open PySem PySem.Spec L2
section
variable {X : Cx} {P : Program} {w : World} {K : PySem.W.Frag} {mg : Str → Option Value} {base : Heap} {N : List Str} {sc : Scope} {k j : Nat} {x : Str} {A : ASp} {ρ ρ' : Env} {μ μ1 μ2 μ' : Mem} {p q r : PV} {e a b c tg : Expr} {es : List Expr} {pos cp : Pos} {D : AEnds} {kb : Bool} {st : Stmt} {sts : List Stmt}

/-! ### readings with an open end -/
def WE (X : Cx) (e : Expr) (ρ : Env) (μ : Mem) (Qa : PV → Mem → Prop) : Prop :=
  ∀ ad σ H (Q : VK), Rst ad X.K H σ ρ μ → (∀ ad2 v H' p μ', Stp ad ad2 H H' → Mst (ad ++ ad2) X.K H' μ' → Rp (ad ++ ad2) X.K H' p v → Qa p μ' → Q v H') → wE X e σ H Q
def WA (X : Cx) (es : List Expr) (ρ : Env) (μ : Mem) (Qa : List PV → Mem → Prop) : Prop :=
  ∀ ad σ H (Q : List V → Hp → Prop), Rst ad X.K H σ ρ μ → (∀ ad2 vs H' ps μ', Stp ad ad2 H H' → Mst (ad ++ ad2) X.K H' μ' → RpL (ad ++ ad2) X.K H' ps vs → Qa ps μ' → Q vs H') → wA X es σ H Q
def WT (X : Cx) (e : Expr) (ρ : Env) (μ : Mem) (Qa : Bool → Mem → Prop) : Prop :=
  ∀ ad σ H (Q : Bool → Hp → Prop), Rst ad X.K H σ ρ μ → (∀ ad2 b H' μ', Stp ad ad2 H H' → Mst (ad ++ ad2) X.K H' μ' → Qa b μ' → Q b H') → wT X e σ H Q
def WW (X : Cx) (e : Expr) (ρ : Env) (μ : Mem) (Qa : Bool → Mem → Prop) : Prop :=
  ∀ ad σ H (Q : Bool → Hp → Prop), Rst ad X.K H σ ρ μ → (∀ ad2 b H' μ', Stp ad ad2 H H' → Mst (ad ++ ad2) X.K H' μ' → Qa b μ' → Q b H') → wW X e σ H Q
theorem WE.of {Qa : PV → Mem → Prop} (h : DE X e ρ μ p μ') (q : Qa p μ') : WE X e ρ μ Qa := fun ad σ H Q R f => h ad σ H Q R fun ad2 v H' s m r => f ad2 v H' p μ' s m r q
theorem WE.de (h : WE X e ρ μ (fun r m => r = p ∧ m = μ')) : DE X e ρ μ p μ' := fun ad σ H Q R f => h ad σ H Q R fun ad2 v H' p' μ'' s m r q => by
  obtain ⟨rfl, rfl⟩ := q
  exact f ad2 v H' s m r
theorem WE.mono {Qa Qb : PV → Mem → Prop} (h : WE X e ρ μ Qa) (q : ∀ p m, Qa p m → Qb p m) : WE X e ρ μ Qb := fun ad σ H Q R f => h ad σ H Q R fun ad2 v H' p μ' s m r z => f ad2 v H' p μ' s m r (q p μ' z)
theorem WT.of {Qa : Bool → Mem → Prop} (h : DT X e ρ μ kb μ') (q : Qa kb μ') : WT X e ρ μ Qa := fun ad σ H Q R f => h ad σ H Q R fun ad2 H' s m => f ad2 kb H' μ' s m q
theorem WA.of {ps : List PV} {Qa : List PV → Mem → Prop} (h : DA X es ρ μ ps μ') (q : Qa ps μ') : WA X es ρ μ Qa := fun ad σ H Q R f => h ad σ H Q R fun ad2 v H' s m r => f ad2 v H' ps μ' s m r q

/-- an operator's weakest reading -/
def rwO (X : Cx) (f : Value → Value → Sem Value) : R2 := fun x y H Q => ∀ pins s σ v u, Inv X pins σ H s → RelV x v → RelV y u → wpAny (model X.prog X.w) X.A (f v u) (EP X pins σ Q) X.xe s
theorem op_w {f : Value → Value → Sem Value} : OpR X f (rwO X f) := fun pins s σ H x y v u Q I rx ry h => h pins s σ v u I rx ry
theorem OpA.weak {f : Value → Value → Sem Value} {ad : AD} {H : Hp} {vx vy : V} {Q : VK} (o : OpA X f p q μ r) (m : Mst ad X.K H μ) (rx : Rp ad X.K H p vx) (ry : Rp ad X.K H q vy) (h : Fin1 X ad H μ r Q) : rwO X f vx vy H Q := by
  obtain ⟨rr, ho, hr⟩ := o
  exact fun pins s σ v u I r1 r2 => ho pins s σ H vx vy v u Q I r1 r2 (hr ad H vx vy Q m rx ry h)
theorem WE.bin {op : Operator} {Qa : PV → Mem → Prop} (h : WE X a ρ μ fun x μ1 => WE X b ρ μ1 fun y μ2 => ∃ z, OpA X (binaryOp op) x y μ2 z ∧ Qa z μ2) : WE X (.BinOp a op b pos) ρ μ Qa := fun ad σ H Q R f =>
  wE.of (pe_op op_w (pe_w a) (pe_w b)) (h ad σ H _ R fun ad1 v H1 x μ1 s1 m1 r1 q1 => q1 (ad ++ ad1) σ H1 _ (R.mono s1 m1) fun ad2 u H2 y μ2 s2 m2 r2 q2 => by
    obtain ⟨z, hz, qz⟩ := q2
    refine OpA.weak hz m2 (r1.mono s2) r2 fun ad3 w' H3 s3 m3 r3 => ?_
    exact f (ad1 ++ (ad2 ++ ad3)) w' H3 z μ2 (s1.trans (s2.trans s3)) (by rw [← AD.append_assoc, ← AD.append_assoc]; exact m3) (by rw [← AD.append_assoc, ← AD.append_assoc]; exact r3) qz)
theorem WE.cmp {op : CmpOp} {Qa : PV → Mem → Prop} (h : WE X a ρ μ fun x μ1 => WE X b ρ μ1 fun y μ2 => ∃ z, OpA X (compareOp op) x y μ2 z ∧ Qa z μ2) (hm : behindInMarks op b = false := by first | rfl | exact nomark _) : WE X (.Compare a [op] [b] pos) ρ μ Qa := fun ad σ H Q R f =>
  wE.of (pe_cmpR op_w (pe_w a) (pe_w b) hm) (h ad σ H _ R fun ad1 v H1 x μ1 s1 m1 r1 q1 => q1 (ad ++ ad1) σ H1 _ (R.mono s1 m1) fun ad2 u H2 y μ2 s2 m2 r2 q2 => by
    obtain ⟨z, hz, qz⟩ := q2
    refine OpA.weak hz m2 (r1.mono s2) r2 fun ad3 w' H3 s3 m3 r3 => ?_
    exact f (ad1 ++ (ad2 ++ ad3)) w' H3 z μ2 (s1.trans (s2.trans s3)) (by rw [← AD.append_assoc, ← AD.append_assoc]; exact m3) (by rw [← AD.append_assoc, ← AD.append_assoc]; exact r3) qz)
theorem WT.cmp {op : CmpOp} {Qa : Bool → Mem → Prop} (h : WE X a ρ μ fun x μ1 => WE X b ρ μ1 fun y μ2 => ∃ z, OpA X (compareOp op) x y μ2 (.bl z) ∧ Qa z μ2) (hm : behindInMarks op b = false := by first | rfl | exact nomark _) : WT X (.Compare a [op] [b] pos) ρ μ Qa := fun ad σ H Q R f =>
  wT.of (pt_cmpR op_w (pe_w a) (pe_w b) hm) (h ad σ H _ R fun ad1 v H1 x μ1 s1 m1 r1 q1 => q1 (ad ++ ad1) σ H1 _ (R.mono s1 m1) fun ad2 u H2 y μ2 s2 m2 r2 q2 => by
    obtain ⟨z, hz, qz⟩ := q2
    refine OpA.weak hz m2 (r1.mono s2) r2 fun ad3 w' H3 s3 m3 r3 => ⟨z, r3.bl_inv, ?_⟩
    exact f (ad1 ++ (ad2 ++ ad3)) z H3 μ2 (s1.trans (s2.trans s3)) (by rw [← AD.append_assoc, ← AD.append_assoc]; exact m3) qz)
theorem WT.val {Qa : Bool → Mem → Prop} (h : WE X a ρ μ fun x m => ∃ z, x = .bl z ∧ Qa z m) (he : ∀ whole, isTrue a X.env whole = (do let v ← whole; standAt a.pos; holding [v] (truthy v)) := by intro _; rfl) : WT X a ρ μ Qa := fun ad σ H Q R f =>
  wT.of (pt_val (pe_w a) he) (h ad σ H _ R fun ad1 v H1 x μ1 s1 m1 r1 q1 => by
    obtain ⟨z, e, q1⟩ := q1
    subst e
    exact ⟨z, r1.bl_inv, f ad1 z H1 μ1 s1 m1 q1⟩)
theorem WT.not {Qa : Bool → Mem → Prop} (h : WT X a ρ μ fun z m => Qa (!z) m) : WT X (.UnaryOp .Not a pos) ρ μ Qa := fun ad σ H Q R f =>
  wT.of (pt_not (pt_w a)) (h ad σ H _ R fun ad1 z H1 μ1 s1 m1 q1 => f ad1 (!z) H1 μ1 s1 m1 q1)
theorem WW.t {Qa : Bool → Mem → Prop} (h : WW X a ρ μ Qa) : WT X a ρ μ Qa := fun ad σ H Q R f => wT.of (pw_w a).pt (h ad σ H Q R f)
theorem WW.and1 {Qa : Bool → Mem → Prop} (h : WT X a ρ μ Qa) : WW X (.BoolOp .And [a] pos) ρ μ Qa := fun ad σ H Q R f => wW.of (pw_and1 (pt_w a)) (h ad σ H Q R f)
theorem WW.or1 {Qa : Bool → Mem → Prop} (h : WT X a ρ μ Qa) : WW X (.BoolOp .Or [a] pos) ρ μ Qa := fun ad σ H Q R f => wW.of (pw_or1 (pt_w a)) (h ad σ H Q R f)
theorem WW.and {Qa : Bool → Mem → Prop} (h : WT X a ρ μ fun z m => if z = true then WW X (.BoolOp .And (b :: es) pos) ρ m Qa else Qa false m) : WW X (.BoolOp .And (a :: b :: es) pos) ρ μ Qa := fun ad σ H Q R f =>
  wW.of (pw_and (pt_w a) (pw_w _)) (h ad σ H _ R fun ad1 z H1 μ1 s1 m1 q1 => by
    cases z with
    | false => exact iteF (f ad1 false H1 μ1 s1 m1 q1)
    | true => exact iteT (q1 (ad ++ ad1) σ H1 Q (R.mono s1 m1) fun ad2 z2 H2 μ2 s2 m2 q2 => f (ad1 ++ ad2) z2 H2 μ2 (s1.trans s2) (by rw [← AD.append_assoc]; exact m2) q2))
theorem WW.or {Qa : Bool → Mem → Prop} (h : WT X a ρ μ fun z m => if z = true then Qa true m else WW X (.BoolOp .Or (b :: es) pos) ρ m Qa) : WW X (.BoolOp .Or (a :: b :: es) pos) ρ μ Qa := fun ad σ H Q R f =>
  wW.of (pw_or (pt_w a) (pw_w _)) (h ad σ H _ R fun ad1 z H1 μ1 s1 m1 q1 => by
    cases z with
    | true => exact iteT (f ad1 true H1 μ1 s1 m1 q1)
    | false => exact iteF (q1 (ad ++ ad1) σ H1 Q (R.mono s1 m1) fun ad2 z2 H2 μ2 s2 m2 q2 => f (ad1 ++ ad2) z2 H2 μ2 (s1.trans s2) (by rw [← AD.append_assoc]; exact m2) q2))
theorem WE.not {Qa : PV → Mem → Prop} (h : WE X a ρ μ fun x m => ∃ z, x = .bl z ∧ Qa (.bl (!z)) m) : WE X (.UnaryOp .Not a pos) ρ μ Qa := fun ad σ H Q R f =>
  wE.of (pe_not (pe_w a)) (h ad σ H _ R fun ad1 v H1 x μ1 s1 m1 r1 q1 => by
    obtain ⟨z, e, q1⟩ := q1
    subst e
    exact ⟨z, r1.bl_inv, f ad1 _ H1 _ μ1 s1 m1 (Rp.bl' _) q1⟩)
theorem WA.nil {Qa : List PV → Mem → Prop} (h : Qa [] μ) : WA X [] ρ μ Qa := WA.of DA.nil h
theorem WA.cons {Qa : List PV → Mem → Prop} (h : WE X e ρ μ fun x m => WA X es ρ m fun xs m2 => Qa (x :: xs) m2) (hs : starEach (e :: es) X.env = (false, eval e X.env) :: starEach es X.env := by rfl) : WA X (e :: es) ρ μ Qa := fun ad σ H Q R f =>
  wA.of (pa_cons (pe_w e) (pa_w es) hs) (h ad σ H _ R fun ad1 v H1 x μ1 s1 m1 r1 q1 =>
    q1 (ad ++ ad1) σ H1 _ (R.mono s1 m1) fun ad2 vs H2 xs μ2 s2 m2 r2 q2 => f (ad1 ++ ad2) _ H2 _ μ2 (s1.trans s2) (by rwa [← AD.append_assoc]) (by rw [← AD.append_assoc]; exact RpL.cons (r1.mono s2) r2) q2)
theorem WE.tup {x1 : Nat} {Qa : PV → Mem → Prop} (h : WA X es ρ μ fun ps m => ps.length ≤ sizeLine ∧ Qa (.tup ps) m) : WE X (.Tuple es x1 pos) ρ μ Qa := fun ad σ H Q R f =>
  wE.of (pe_tup (pa_w es)) (h ad σ H _ R fun ad1 vs H1 ps μ1 s1 m1 r1 q1 => ⟨by rw [← r1.length]; exact q1.1, fun a ha => by
    have s2 : Stp (ad ++ ad1) [] H1 (upd H1 a (.tup vs)) := Stp.data ha
    refine f (ad1 ++ []) _ _ (.tup ps) μ1 (s1.trans s2) (by rw [List.append_nil]; exact m1.data ha) ?_ q1.2
    rw [List.append_nil]
    unfold Rp
    refine ⟨a, vs, rfl, .inl ⟨upd_same, m1.notIn ha⟩, ?_⟩
    have := RpL.mono (K := X.K) s2 ps vs r1
    rwa [AD.append_nil] at this⟩)
theorem WE.lst {Qa : PV → Mem → Prop} (h : WA X es ρ μ fun ps m => ps.length ≤ sizeLine ∧ Qa (.lst ps) m) : WE X (.List es pos) ρ μ Qa := fun ad σ H Q R f =>
  wE.of (pe_lst (pa_w es)) (h ad σ H _ R fun ad1 vs H1 ps μ1 s1 m1 r1 q1 => ⟨by rw [← r1.length]; exact q1.1, fun a ha => by
    have s2 : Stp (ad ++ ad1) [] H1 (upd H1 a (.lst vs)) := Stp.data ha
    refine f (ad1 ++ []) _ _ (.lst ps) μ1 (s1.trans s2) (by rw [List.append_nil]; exact m1.data ha) ?_ q1.2
    rw [List.append_nil]
    unfold Rp
    refine ⟨a, vs, rfl, ⟨upd_same, m1.notIn ha⟩, ?_⟩
    have := RpL.mono (K := X.K) s2 ps vs r1
    rwa [AD.append_nil] at this⟩)
theorem WE.lstO {Qa : PV → Mem → Prop} (h : WA X es ρ μ fun ps m => ps.length ≤ sizeLine ∧ Qa (.obj m.length) (m ++ [.lst ps])) : WE X (.List es pos) ρ μ Qa := fun ad σ H Q R f =>
  wE.of (pe_lst (pa_w es)) (h ad σ H _ R fun ad1 vs H1 ps μ1 s1 m1 r1 q1 => ⟨by rw [← r1.length]; exact q1.1, fun a ha => by
    have s2 : Stp (ad ++ ad1) [a] H1 (upd H1 a (.lst vs)) := Stp.fresh ha
    refine f (ad1 ++ [a]) _ _ (.obj μ1.length) (μ1 ++ [.lst ps]) (s1.trans s2) ?_ ?_ q1.2
    · rw [← AD.append_assoc]
      exact m1.push ha ⟨vs, upd_same, RpL.mono (K := X.K) s2 ps vs r1⟩
    · rw [← AD.append_assoc]
      unfold Rp
      exact ⟨a, rfl, AD.at_snoc m1.len⟩⟩)
/-- f(e, ..), whatever it promises -/
theorem WE.call (cx : CxD X P w K mg base N sc k) {Qa : PV → Mem → Prop} (F : FnA P w K mg base j x A) (hj : j ≤ k) (hx : sc.names.lookup x = some .globalImplicit) (h : WA X (e :: es) ρ μ fun ps m => A ps m Qa (fun _ _ => False))
    (hdb : (x == ("__debug__" : Str)) = false := by decide) (he : starEach (e :: es) X.env = (false, eval e X.env) :: starEach es X.env := by rfl) (hpl : (backTo pos (starEach es X.env)).any (·.1) = false := by rfl) :
    WE X (.Call (.Name x cp) (e :: es) [] pos) ρ μ Qa := fun ad σ H Q R f => by
  obtain ⟨fa, fd, pn, F1, hm, hk, hb⟩ := cx.fn F
  refine wE.of (pe_call F1 (cx.room.mono hj) (cx.gl x hx) hm hk hb .nil passE0 (pa_w _) hdb he hpl) (h ad σ H _ R fun ad1 vs H1 ps μ1 s1 m1 r1 q1 => ?_)
  rw [List.append_nil]
  refine ⟨ad ++ ad1, μ1, ps, _, _, m1, r1, q1, fun ad2 H' μ' r v s m rr hq => ?_, fun _ _ _ _ _ _ _ _ _ h => h.elim⟩
  exact f (ad1 ++ ad2) v H' r μ' (s1.trans s) (by rwa [← AD.append_assoc]) (by rwa [← AD.append_assoc]) hq
/-! statements by open readings -/
theorem DS.exprW (h : WE X e ρ μ fun _ m => D.nx ρ m) (hs : swapsWith e none pos.line X.env = pure false := by rfl) : DS X (.Expr e pos) ρ μ D := fun ad σ H Dc R C =>
  wS.of (ps_expr (pe_w e) hs) (h ad σ H _ R fun ad2 v H' p μ' s m r q => C.nx ad2 σ H' ρ μ' s (R.mono s m) q)
theorem DS.retW (h : WE X e ρ μ fun p m => D.rt p m) : DS X (.Return (some e) pos) ρ μ D := fun ad σ H Dc R C =>
  wS.of (ps_ret (pe_w e)) (h ad σ H _ R fun ad2 v H' p μ' s m r q => C.rt ad2 v H' p μ' s m r q)
theorem DS.ifeW {B B' : List Stmt} (h : WT X c ρ μ fun z m => if z = true then DSs X B ρ m D else DSs X B' ρ m D) : DS X (.If c B B' pos) ρ μ D := fun ad σ H Dc R C =>
  wS.of (ps_if (pt_w c) (pss_w B) (pss_w B')) (h ad σ H _ R fun ad2 z H' μ' s m q => by
    cases z with
    | true => exact iteT (q _ σ H' Dc (R.mono s m) (C.step s))
    | false => exact iteF (q _ σ H' Dc (R.mono s m) (C.step s)))
theorem CxF.setW (cx : CxF X P w K mg base N sc k) (i : Nat) (hN : N[i]? = some x) (hs : stoB sc x = true) {pos pos' : Pos} (h : WE X e ρ μ fun p m => D.nx (ρ.set i (some p)) m)
    (hsw : swapsWith e (some (.Name x pos')) pos.line X.env = pure false := by rfl) : DS X (.Assign [.Name x pos'] e pos) ρ μ D := fun ad σ H Dc R C =>
  wS.of (ps_set cx.nd' (by rw [cx.eN]; exact hN) (cx.sto x hs).1 (pe_w e) hsw (cx.sto x hs).2) (h ad σ H _ R fun ad2 v H' p μ' s m r q => C.nx ad2 _ H' _ μ' s ⟨m, (R.mono s m).e.set i r⟩ q)

/-! ### names of the module -/
theorem DE.glob {u : Value} {v : V} (cx : CxD X P w K mg base N sc k) (hx : sc.names.lookup x = some .globalImplicit) (hm : mg x = some u) (r : RelV v u) (h : ∀ ad H, Rp ad X.K H p v) (hd : (x == ("__debug__" : Str)) = false := by decide) : DE X (.Name x pos) ρ μ p μ := fun ad σ H Q R f =>
  wE.of (pe_glob (cx.gl x hx) (by rw [cx.emg]; exact hm) r hd) (f [] _ H Stp.refl R.nil (h _ _))
theorem DE.globS {z : Str} (cx : CxD X P w K mg base N sc k) (hx : sc.names.lookup x = some .globalImplicit) (hm : ∃ t, mg x = some (.str z t)) (hd : (x == ("__debug__" : Str)) = false := by decide) : DE X (.Name x pos) ρ μ (.str z) μ := by
  obtain ⟨t, ht⟩ := hm
  exact DE.glob (v := .str z) cx hx ht ⟨t, rfl⟩ (fun _ _ => Rp.str' _) hd
/-! ### built-ins by name -/
def CallA (X : Cx) (f : Value) (ps : List PV) (μ : Mem) (p : PV) : Prop :=
  ∃ rr, CallR X f rr ∧ ∀ ad H vs Q, Mst ad X.K H μ → RpL ad X.K H ps vs → Fin1 X ad H μ p Q → rr vs H Q
theorem DE.callB {id : String} {ps : List PV} (cx : CxD X P w K mg base N sc k) (hx : sc.names.lookup x = some .globalImplicit) (hm : mg x = none) (hv : bootBuiltins x = some (.builtin id)) (ha : DA X (e :: es) ρ μ ps μ1) (h : CallA X (.builtin id) ps μ1 p)
    (hn : x ≠ "__name__" := by decide) (hdb : (x == ("__debug__" : Str)) = false := by decide) (he : starEach (e :: es) X.env = (false, eval e X.env) :: starEach es X.env := by rfl) (hpl : (backTo pos (starEach es X.env)).any (·.1) = false := by rfl) :
    DE X (.Call (.Name x cp) (e :: es) [] pos) ρ μ p μ1 := fun ad σ H Q R f => by
  obtain ⟨rr, hc, hr⟩ := h
  exact wE.of (pe_callB hc (cx.gl x hx) (by rw [cx.emg]; exact hm) hv (pa_w _) hn hdb he hpl) (ha ad σ H _ R fun ad1 vs H1 s1 m1 r1 => hr (ad ++ ad1) H1 vs Q m1 r1 (Fin1.step s1 f))
theorem DE.callTy {T : String} {ps : List PV} (cx : CxD X P w K mg base N sc k) (hx : sc.names.lookup x = some .globalImplicit) (hm : mg x = none) (hv : bootBuiltins x = some (.type T)) (ha : DA X (e :: es) ρ μ ps μ1) (h : CallA X (.type T) ps μ1 p)
    (hn : x ≠ "__name__" := by decide) (hdb : (x == ("__debug__" : Str)) = false := by decide) (he : starEach (e :: es) X.env = (false, eval e X.env) :: starEach es X.env := by rfl) (hpl : (backTo pos (starEach es X.env)).any (·.1) = false := by rfl) :
    DE X (.Call (.Name x cp) (e :: es) [] pos) ρ μ p μ1 := fun ad σ H Q R f => by
  obtain ⟨rr, hc, hr⟩ := h
  exact wE.of (pe_callTy hc (cx.gl x hx) (by rw [cx.emg]; exact hm) hv (pa_w _) hn hdb he hpl) (ha ad σ H _ R fun ad1 vs H1 s1 m1 r1 => hr (ad ++ ad1) H1 vs Q m1 r1 (Fin1.step s1 f))
theorem RpL.inv1 {ad : AD} {H : Hp} {vs : List V} (r : RpL ad K H [p] vs) : ∃ v, vs = [v] ∧ Rp ad K H p v := by
  unfold RpL at r
  obtain ⟨v, w, e1, r1, r2⟩ := r
  unfold RpL at r2
  subst r2
  exact ⟨v, e1, r1⟩
theorem RpL.inv2 {ad : AD} {H : Hp} {vs : List V} (r : RpL ad K H [p, q] vs) : ∃ v u, vs = [v, u] ∧ Rp ad K H p v ∧ Rp ad K H q u := by
  unfold RpL at r
  obtain ⟨v, w, e1, r1, r2⟩ := r
  obtain ⟨u, e2, r3⟩ := r2.inv1
  exact ⟨v, u, by rw [e1, e2], r1, r3⟩
theorem CallA.int1 {f : Value} {i : Int} {rr : List V → Hp → VK → Prop} {v : V} (hc : CallR X f rr) (h : ∀ H (Q : VK), Q v H → rr [.int i] H Q) (hp : ∀ ad H, Rp ad X.K H p v) : CallA X f [.int i] μ p :=
  ⟨rr, hc, fun ad H vs Q m r f => by rw [r.one_int]; exact h H Q (f [] v H Stp.refl (by rwa [AD.append_nil]) (hp _ _))⟩
theorem ca_abs {i : Int} : CallA X (.builtin "abs") [.int i] μ (.int ((i.natAbs : Nat) : Int)) :=
  CallA.int1 call_abs (fun H Q q => ⟨i, rfl, by rw [show (if i < 0 then -i else i) = ((i.natAbs : Nat) : Int) from by split <;> omega]; exact q⟩) fun _ _ => Rp.int' _
theorem ca_intB {b : Bool} : CallA X (.type "int") [.bl b] μ (.int (if b then 1 else 0)) :=
  ⟨_, call_int1, fun ad H vs Q m r f => by
    obtain ⟨v, e, rv⟩ := r.inv1
    rw [e, rv.bl_inv]
    exact .inr ⟨b, rfl, f [] _ H Stp.refl (by rwa [AD.append_nil]) (Rp.int' _)⟩⟩
theorem ca_str {i : Int} (h : i.natAbs.log2 < 1920) : CallA X (.type "str") [.int i] μ (.str (toString i)) := CallA.int1 call_str_int (fun H Q q => ⟨i, rfl, h, q⟩) fun _ _ => Rp.str' _
theorem ca_intS {z : Str} {i : Int} (h : intText? z = some i) (hz : z.length ≤ 640) : CallA X (.type "int") [.str z] μ (.int i) :=
  ⟨_, call_int_str, fun ad H vs Q m r f => by
    obtain ⟨v, e, rv⟩ := r.inv1
    rw [e, rv.str_inv]
    exact ⟨z, i, rfl, h, hz, f [] _ H Stp.refl (by rwa [AD.append_nil]) (Rp.int' _)⟩⟩
theorem ca_max2 {i j : Int} (hc : X.calm = true) : CallA X (.builtin "max") [.int i, .int j] μ (.int (max i j)) :=
  ⟨_, call_max2 hc, fun ad H vs Q m r f => by
    rw [r.two_int]
    refine ⟨i, j, rfl, ?_⟩
    rw [show (if j > i then j else i) = max i j from by omega]
    exact f [] _ H Stp.refl (by rwa [AD.append_nil]) (Rp.int' _)⟩
theorem ca_len {xs : List PV} (h : asL μ p = some xs) : CallA X (.builtin "len") [p] μ (.int xs.length) :=
  ⟨_, call_len_seq, fun ad H vs Q m r f => by
    obtain ⟨v, e, rv⟩ := r.inv1
    obtain ⟨l, ws, e1, h1, r1⟩ := rv.asL_inv h m
    rw [e, e1]
    refine ⟨l, ws, rfl, .inl h1, ?_⟩
    rw [← r1.length]
    exact f [] _ H Stp.refl (by rwa [AD.append_nil]) (Rp.int' _)⟩
theorem ca_lenS {z : Str} (h : z.length ≤ sizeLine) : CallA X (.builtin "len") [.str z] μ (.int z.length) :=
  ⟨_, call_len_str, fun ad H vs Q m r f => by
    obtain ⟨v, e, rv⟩ := r.inv1
    rw [e, rv.str_inv]
    exact ⟨z, rfl, h, f [] _ H Stp.refl (by rwa [AD.append_nil]) (Rp.int' _)⟩⟩
theorem RpL.ints' {ad : AD} {H : Hp} : ∀ {ns : List Int} {vs : List V}, RpL ad K H (ns.map PV.int) vs → vs = ns.map V.int
  | [], vs, r => by unfold List.map RpL at r; exact r
  | n :: ns, vs, r => by
    rw [List.map_cons] at r
    unfold RpL at r
    obtain ⟨v, w, e1, r1, r2⟩ := r
    rw [e1, r1.int_inv, RpL.ints' r2]
    rfl
theorem RpL.strs' {ad : AD} {H : Hp} : ∀ {ns : List Str} {vs : List V}, RpL ad K H (ns.map PV.str) vs → vs = ns.map V.str
  | [], vs, r => by unfold List.map RpL at r; exact r
  | n :: ns, vs, r => by
    rw [List.map_cons] at r
    unfold RpL at r
    obtain ⟨v, w, e1, r1, r2⟩ := r
    rw [e1, r1.str_inv, RpL.strs' r2]
    rfl
theorem RpL.of_ints {ad : AD} {H : Hp} : ∀ {ns : List Int}, RpL ad K H (ns.map PV.int) (ns.map V.int)
  | [] => RpL.nil
  | _ :: _ => RpL.cons (Rp.int' _) RpL.of_ints
theorem RpL.of_strs {ad : AD} {H : Hp} : ∀ {ns : List Str}, RpL ad K H (ns.map PV.str) (ns.map V.str)
  | [] => RpL.nil
  | _ :: _ => RpL.cons (Rp.str' _) RpL.of_strs
theorem ca_sum {ns : List Int} (hc : X.calm = true) (h : asL μ p = some (ns.map PV.int)) : CallA X (.builtin "sum") [p] μ (.int ns.sum) :=
  ⟨_, cr_sum hc, fun ad H vs Q m r f => by
    obtain ⟨v, e, rv⟩ := r.inv1
    obtain ⟨l, ws, e1, h1, r1⟩ := rv.asL_inv h m
    rw [e, e1]
    rw [r1.ints'] at h1
    exact ⟨l, ns, rfl, h1, f [] _ H Stp.refl (by rwa [AD.append_nil]) (Rp.int' _)⟩⟩
theorem Fin1.lst {ad : AD} {H : Hp} {xs : List PV} {vs : List V} {Q : VK} {l : Addr} (f : Fin1 X ad H μ (.lst xs) Q) (m : Mst ad X.K H μ) (hl : H l = none) (r : RpL ad X.K H xs vs) : Q (.ref l) (upd H l (.lst vs)) := by
  have s2 : Stp ad [] H (upd H l (.lst vs)) := Stp.data hl
  refine f [] _ _ s2 (by rw [AD.append_nil]; exact m.data hl) ?_
  rw [AD.append_nil]
  unfold Rp
  refine ⟨l, _, rfl, ⟨upd_same, m.notIn hl⟩, ?_⟩
  have := RpL.mono (K := X.K) s2 _ _ r
  rwa [AD.append_nil] at this
theorem Fin1.tup {ad : AD} {H : Hp} {xs : List PV} {vs : List V} {Q : VK} {l : Addr} (f : Fin1 X ad H μ (.tup xs) Q) (m : Mst ad X.K H μ) (hl : H l = none) (r : RpL ad X.K H xs vs) : Q (.ref l) (upd H l (.tup vs)) := by
  have s2 : Stp ad [] H (upd H l (.tup vs)) := Stp.data hl
  refine f [] _ _ s2 (by rw [AD.append_nil]; exact m.data hl) ?_
  rw [AD.append_nil]
  unfold Rp
  refine ⟨l, _, rfl, .inl ⟨upd_same, m.notIn hl⟩, ?_⟩
  have := RpL.mono (K := X.K) s2 _ _ r
  rwa [AD.append_nil] at this
/-! ### isinstance of a built-in type -/
def tyN (μ : Mem) : PV → String
  | .non => "NoneType"
  | .bl _ => "bool"
  | .int _ => "int"
  | .str _ => "str"
  | .tup _ => "tuple"
  | .lst _ => "list"
  | .scr _ => "list"
  | .wtp _ => "tuple"
  | .dct _ _ => "dict"
  | .exc _ _ _ => "?"
  | .exm _ _ => "?"
  | .obj k => match μ[k]? with
    | some (.lst _) => "list"
    | some (.dK _ _) => "dict"
    | some (.dT _ _) => "dict"
    | _ => "?"
theorem Rp.tyX {ad : AD} {H : Hp} {v : V} (h : Rp ad K H p v) (m : Mst ad K H μ) (hn : tyN μ p ≠ "?") : TyX K H v (.type (tyN μ p)) := by
  cases p with
  | non => rw [h.non_inv]; exact .base .non
  | bl b => rw [h.bl_inv]; exact .base (.bl b)
  | int i => rw [h.int_inv]; exact .base (.int i)
  | str z => rw [h.str_inv]; exact .base (.str z)
  | tup xs =>
    unfold Rp at h
    obtain ⟨a, vs, e, h1, h2⟩ := h
    rcases h1 with ⟨x, y⟩ | h1
    · rw [e]; exact .base (.tup x)
    · exact h1.elim
  | lst xs =>
    obtain ⟨a, vs, e, h1, h3, h2⟩ := h.lst_inv
    rw [e]; exact .base (.lst h1)
  | wtp xs =>
    unfold Rp at h
    obtain ⟨a, vs, e, ⟨o, its, n, hk, hc, _⟩, h2⟩ := h
    rw [e]
    exact .kTuple hk hc
  | scr xs =>
    unfold Rp at h
    obtain ⟨a, vs, e, h1, h2⟩ := h
    rw [e]
    rcases h1 with ⟨⟨o, h1⟩, _⟩ | ⟨o, its, n, hk, hc, _⟩
    · exact .base (.frz h1)
    · exact .kList hk hc
  | dct ks xs =>
    unfold Rp at h
    obtain ⟨a, vs, e, ⟨h1, _⟩, h2⟩ := h
    rw [e]; exact .base (.dK h1)
  | exc C fs xs => exact absurd rfl hn
  | exm C m => exact absurd rfl hn
  | obj i =>
    obtain ⟨a, e, h1⟩ := h.obj_inv
    cases q : μ[i]? with
    | none => exact absurd (show tyN μ (.obj i) = "?" by unfold tyN; dsimp only; rw [q]) hn
    | some o =>
      have hm := m.mem i a o h1 q
      cases o with
      | lst xs =>
        obtain ⟨vs, hv, _⟩ := hm
        rw [e, show tyN μ (.obj i) = "list" by unfold tyN; dsimp only; rw [q]]
        exact .base (.lst hv)
      | dK ks xs =>
        obtain ⟨vs, hv, _⟩ := hm
        rw [e, show tyN μ (.obj i) = "dict" by unfold tyN; dsimp only; rw [q]]
        exact .base (.dK hv)
      | dT ks xs =>
        obtain ⟨vs, hv, _⟩ := hm
        rw [e, show tyN μ (.obj i) = "dict" by unfold tyN; dsimp only; rw [q]]
        exact .base (.dT hv)
      | ins C fs xs => exact absurd (show tyN μ (.obj i) = "?" by unfold tyN; dsimp only; rw [q]) hn
      | dead => exact absurd (show tyN μ (.obj i) = "?" by unfold tyN; dsimp only; rw [q]) hn
      | lk o kvs xs => exact absurd (show tyN μ (.obj i) = "?" by unfold tyN; dsimp only; rw [q]) hn
theorem DE.isi {T : String} {y : Str} {b : Bool} {cp2 : Pos} (cx : CxD X P w K mg base N sc k) (hx : sc.names.lookup ("isinstance" : Str) = some .globalImplicit) (hm : mg "isinstance" = none) (hy : sc.names.lookup y = some .globalImplicit) (hmy : mg y = none) (hv : bootBuiltins y = some (.type T))
    (ha : DE X a ρ μ p μ1) {S : String} (hS : tyN μ1 p = S) (hk : kitB S T = some b) (hn : S ≠ "?" := by decide) (hny : y ≠ "__name__" := by decide) (hdy : (y == ("__debug__" : Str)) = false := by decide)
    (hb : bootBuiltins "isinstance" = some (.builtin "isinstance") := by decide +kernel)
    (he : starEach [a, .Name y cp2] X.env = (false, eval a X.env) :: starEach [.Name y cp2] X.env := by rfl) (he2 : starEach [.Name y cp2] X.env = (false, eval (.Name y cp2) X.env) :: starEach [] X.env := by rfl) (hpl : (backTo pos (starEach [.Name y cp2] X.env)).any (·.1) = false := by rfl) :
    DE X (.Call (.Name "isinstance" cp) [a, .Name y cp2] [] pos) ρ μ (.bl b) μ1 := fun ad σ H Q R f => by
  subst hS
  refine wE.of (pe_callB call_isi (cx.gl _ hx) (by rw [cx.emg]; exact hm) hb (pa_cons (pe_w a) (pa_cons (pe_bltn (v := .ty T) (cx.gl y hy) (by rw [cx.emg]; exact hmy) hv rfl hny hdy) pa_nil he2) he) (by decide) (by decide) he hpl) ?_
  refine ha ad σ H _ R fun ad1 v H1 s1 m1 r1 => ?_
  exact ⟨v, .ty T, .type (tyN μ1 p), .type T, b, rfl, .ty T, r1.tyX m1 hn, kit_ty hk, f ad1 _ H1 s1 m1 (Rp.bl' _)⟩
end
end L3

namespace L3
open PySem PySem.Spec L2
section
variable {X : Cx} {P : Program} {w : World} {K : PySem.W.Frag} {mg : Str → Option Value} {base : Heap} {N : List Str} {sc : Scope} {k j : Nat} {x : Str} {A : ASp} {ρ ρ' : Env} {μ μ1 μ2 μ3 μ' : Mem} {p q r : PV} {e a b c o tg : Expr} {es : List Expr} {pos cp : Pos} {D : AEnds} {kb : Bool} {st : Stmt} {sts : List Stmt}

/-! ### slices -/
def DO (X : Cx) (e : Option Expr) (ρ : Env) (μ : Mem) (l : Option Int) (μ' : Mem) : Prop :=
  ∃ t, PO X e t ∧ ∀ ad σ H (Q : Option Int → Hp → Prop), Rst ad X.K H σ ρ μ → (∀ ad2 H', Stp ad ad2 H H' → Mst (ad ++ ad2) X.K H' μ' → Q l H') → t σ H Q
theorem DO.none : DO X none ρ μ none μ := ⟨_, po_none, fun ad σ H Q R f => f [] H Stp.refl R.nil⟩
theorem DO.some {i : Int} (h : DE X e ρ μ (.int i) μ') : DO X (some e) ρ μ (some i) μ' := ⟨_, po_some (pe_w e), fun ad σ H Q R f => h ad σ H _ R fun ad2 v H' s m r => ⟨i, r.int_inv, f ad2 H' s m⟩⟩
def SlA (X : Cx) (p : PV) (l u : Option Int) (μ : Mem) (r : PV) : Prop :=
  ∃ rr, SlR X rr ∧ ∀ ad H v Q, Mst ad X.K H μ → Rp ad X.K H p v → Fin1 X ad H μ r Q → rr v l u H Q
theorem DE.slice {lo hi : Option Expr} {l u : Option Int} {p2 : Pos} (ha : DE X a ρ μ p μ1) (hl : DO X lo ρ μ1 l μ2) (hh : DO X hi ρ μ2 u μ3) (h : SlA X p l u μ3 r) : DE X (.Subscript a (.Slice lo hi none p2) pos) ρ μ r μ3 := fun ad σ H Q R f => by
  obtain ⟨rr, hs, hr⟩ := h
  obtain ⟨t1, ho1, h1⟩ := hl
  obtain ⟨t2, ho2, h2⟩ := hh
  refine wE.of (pe_slice hs (pe_w a) ho1 ho2) (ha ad σ H _ R fun ad1 v H1 s1 m1 r1 => h1 (ad ++ ad1) σ H1 _ (R.mono s1 m1) fun ad2 H2 s2 m2 => h2 (ad ++ ad1 ++ ad2) σ H2 _ ((R.mono s1 m1).mono s2 m2) fun ad3 H3 s3 m3 => ?_)
  exact hr _ H3 v Q m3 ((r1.mono s2).mono s3) (Fin1.step s3 (Fin1.step s2 (Fin1.step s1 f)))
/-- xs[lo:hi] -/
def cutP {α : Type} (xs : List α) (lo hi : Option Int) : List α := (xs.drop (HT.sIx xs.length 0 lo)).take (HT.sIx xs.length xs.length hi - HT.sIx xs.length 0 lo)
theorem sa_lst {xs : List PV} {l u : Option Int} (h : asL μ p = some xs) : SlA X p l u μ (.lst (cutP xs l u)) :=
  ⟨_, sl_list, fun ad H v Q m r f => by
    obtain ⟨a, vs, e1, h1, r1⟩ := r.asL_inv h m
    exact ⟨a, vs, e1, h1, fun b hb => f.lst m hb (r1.cut l u)⟩⟩
theorem sa_str {z : Str} {l u : Option Int} (h : z.length ≤ sizeLine) : SlA X (.str z) l u μ (.str (cutS z l u)) :=
  ⟨_, sl_str, fun ad H v Q m r f => ⟨z, r.str_inv, h, f [] _ H Stp.refl (by rwa [AD.append_nil]) (Rp.str' _)⟩⟩
/-! ### methods of lists and texts -/
theorem Rp.tyL {ad : AD} {H : Hp} {v : V} {xs : List PV} (h : Rp ad K H p v) (m : Mst ad K H μ) (e : asL μ p = some xs) : tyV K "list" v H := by
  obtain ⟨l, vs, e1, h1, _⟩ := h.asL_inv e m
  subst e1
  exact .inl ⟨rfl, vs, h1⟩
theorem DE.append {n : Nat} {xs ys : List PV} {apos : Pos} (ho : DE X o ρ μ (.obj n) μ1) (he : DE X e ρ μ1 p μ2) (h1 : asL μ1 (.obj n) = some ys) (h2 : μ2[n]? = some (.lst xs)) (hl : xs.length < sizeLine)
    (hbase : attributeBase o "append" X.env (eval o X.env) = eval o X.env := by rfl)
    (hfew : ((backTo cp (starEach [e] X.env)).all (fun x => !x.1) && (backToKw cp (keywordEach [] X.env)).all (fun x => x.1.isSome)
      && decide (([e] : List Expr).length + ([] : List Keyword).length + (if ([] : List Keyword).isEmpty then 0 else 1) < 30)) = true := by rfl)
    (hline : (apos.endLine == cp.line) = true := by rfl) (hs : starEach [e] X.env = (false, eval e X.env) :: starEach [] X.env := by rfl) (hplain : (backTo cp (starEach [] X.env)).any (·.1) = false := by rfl) :
    DE X (.Call (.Attribute o "append" apos) [e] [] cp) ρ μ .non (μ2.set n (.lst (xs ++ [p]))) := fun ad σ H Q R f => by
  refine wE.of (pe_bm PySem.F.plainAttrs_list PySem.F.slot_list_append PySem.F.type_list_append mt_append (pe_w o) (pa_w [e]) hbase hfew hline hs hplain) ?_
  refine ho ad σ H _ R fun ad1 v H1 s1 m1 r1 => ⟨r1.tyL m1 h1, ?_⟩
  refine DA.cons he DA.nil hs (ad ++ ad1) σ H1 _ (R.mono s1 m1) fun ad2 vs H2 s2 m2 r2 => ?_
  obtain ⟨u, e2, ru⟩ := r2.inv1
  obtain ⟨l, e3, hl3⟩ := (r1.mono s2).obj_inv
  obtain ⟨ws, hw, rw'⟩ := m2.mem n l _ hl3 h2
  refine ⟨l, ws, u, e3, e2, hw, by rw [← rw'.length]; exact hl, ?_⟩
  have s3 : Stp (ad ++ ad1 ++ ad2) [] H2 (upd H2 l (.lst (ws ++ [u]))) := Stp.write hl3
  have m3 := m2.write (o := .lst (ws ++ [u])) (m := .lst (xs ++ [p])) hl3 ⟨_, upd_same, (rw'.append (RpL.cons ru RpL.nil)).wr hl3⟩
  exact (Fin1.step s2 (Fin1.step s1 f)) [] _ _ s3 (by rw [AD.append_nil]; exact m3) Rp.non'
def MtA (X : Cx) (id : String) (p : PV) (ps : List PV) (μ : Mem) (r : PV) : Prop :=
  ∃ rr, MtR X id rr ∧ ∀ ad H v vs Q, Mst ad X.K H μ → Rp ad X.K H p v → RpL ad X.K H ps vs → Fin1 X ad H μ r Q → rr v vs H Q
/-- s.m(e, ..), s a text -/
theorem DE.bmS {id : String} {name : Str} {ps : List PV} {z : Str} {apos : Pos} (slot : Slot "str" name id) (hty : typeOf (.builtin id) = pure (.type "method_descriptor")) (ho : DE X o ρ μ (.str z) μ1) (ha : DA X (e :: es) ρ μ1 ps μ2) (h : MtA X id (.str z) ps μ2 r)
    (hbase : attributeBase o name X.env (eval o X.env) = eval o X.env := by rfl)
    (hfew : ((backTo cp (starEach (e :: es) X.env)).all (fun x => !x.1) && (backToKw cp (keywordEach [] X.env)).all (fun x => x.1.isSome)
      && decide ((e :: es).length + ([] : List Keyword).length + (if ([] : List Keyword).isEmpty then 0 else 1) < 30)) = true := by rfl)
    (hline : (apos.endLine == cp.line) = true := by rfl) (hs : starEach (e :: es) X.env = (false, eval e X.env) :: starEach es X.env := by rfl) (hplain : (backTo cp (starEach es X.env)).any (·.1) = false := by rfl) :
    DE X (.Call (.Attribute o name apos) (e :: es) [] cp) ρ μ r μ2 := fun ad σ H Q R f => by
  obtain ⟨rr, hm, hr⟩ := h
  refine wE.of (pe_bm PySem.F.plainAttrs_str slot hty hm (pe_w o) (pa_w _) hbase hfew hline hs hplain) ?_
  refine ho ad σ H _ R fun ad1 v H1 s1 m1 r1 => ⟨by rw [r1.str_inv]; rfl, ?_⟩
  exact ha (ad ++ ad1) σ H1 _ (R.mono s1 m1) fun ad2 vs H2 s2 m2 r2 => hr _ H2 v vs Q m2 (r1.mono s2) r2 (Fin1.step s2 (Fin1.step s1 f))
/-- xs.m(e, ..), xs a list -/
theorem DE.bmL {id : String} {name : Str} {ps xs : List PV} {apos : Pos} (slot : Slot "list" name id) (hty : typeOf (.builtin id) = pure (.type "method_descriptor")) (ho : DE X o ρ μ p μ1) (hx : asL μ1 p = some xs) (ha : DA X (e :: es) ρ μ1 ps μ2) (h : MtA X id p ps μ2 r)
    (hbase : attributeBase o name X.env (eval o X.env) = eval o X.env := by rfl)
    (hfew : ((backTo cp (starEach (e :: es) X.env)).all (fun x => !x.1) && (backToKw cp (keywordEach [] X.env)).all (fun x => x.1.isSome)
      && decide ((e :: es).length + ([] : List Keyword).length + (if ([] : List Keyword).isEmpty then 0 else 1) < 30)) = true := by rfl)
    (hline : (apos.endLine == cp.line) = true := by rfl) (hs : starEach (e :: es) X.env = (false, eval e X.env) :: starEach es X.env := by rfl) (hplain : (backTo cp (starEach es X.env)).any (·.1) = false := by rfl) :
    DE X (.Call (.Attribute o name apos) (e :: es) [] cp) ρ μ r μ2 := fun ad σ H Q R f => by
  obtain ⟨rr, hm, hr⟩ := h
  refine wE.of (pe_bm PySem.F.plainAttrs_list slot hty hm (pe_w o) (pa_w _) hbase hfew hline hs hplain) ?_
  refine ho ad σ H _ R fun ad1 v H1 s1 m1 r1 => ⟨r1.tyL m1 hx, ?_⟩
  exact ha (ad ++ ad1) σ H1 _ (R.mono s1 m1) fun ad2 vs H2 s2 m2 r2 => hr _ H2 v vs Q m2 (r1.mono s2) r2 (Fin1.step s2 (Fin1.step s1 f))
theorem ma_find {z y : Str} : MtA X "str.find" (.str z) [.str y] μ (.int (Txt.find z y)) :=
  ⟨_, mt_find, fun ad H v vs Q m r rs f => by
    obtain ⟨u, e, ru⟩ := rs.inv1
    rw [e, r.str_inv, ru.str_inv]
    exact ⟨z, y, rfl, rfl, f [] _ H Stp.refl (by rwa [AD.append_nil]) (Rp.int' _)⟩⟩
theorem ma_split {z y : Str} (hy : (y.length == 0) = false) (hz : z.length + 2 ≤ sizeLine) : MtA X "str.split" (.str z) [.str y] μ (.lst ((Txt.split z y).map PV.str)) :=
  ⟨_, mt_split, fun ad H v vs Q m r rs f => by
    obtain ⟨u, e, ru⟩ := rs.inv1
    rw [e, r.str_inv, ru.str_inv]
    exact ⟨z, y, rfl, rfl, hy, hz, fun a ha => f.lst m ha RpL.of_strs⟩⟩
theorem ma_join {z : Str} {ys : List Str} (h : asL μ p = some (ys.map PV.str)) (hz : (ys.map (·.length)).sum + ys.length * z.length ≤ 16777216) : MtA X "str.join" (.str z) [p] μ (.str (Txt.join z ys)) :=
  ⟨_, mt_join, fun ad H v vs Q m r rs f => by
    obtain ⟨u, e, ru⟩ := rs.inv1
    obtain ⟨l, ws, e1, h1, r1⟩ := ru.asL_inv h m
    rw [e, r.str_inv, e1]
    rw [r1.strs'] at h1
    exact ⟨z, l, ys, rfl, rfl, .inl h1, hz, f [] _ H Stp.refl (by rwa [AD.append_nil]) (Rp.str' _)⟩⟩

/-! ### equality of data -/
def vw (μ : Mem) : PV → PV
  | .obj k => match μ[k]? with
    | some (.lst xs) => .lst xs
    | _ => .obj k
  | p => p
mutual
def toD : PV → PyData
  | .bl b => .bool b
  | .int i => .int i
  | .str x => .str x
  | .tup xs => .tuple (toDL xs)
  | .lst xs => .list (toDL xs)
  | .scr xs => .list (toDL xs)
  | .wtp xs => .tuple (toDL xs)
  | _ => .none
def toDL : List PV → List PyData
  | [] => []
  | p :: ps => toD p :: toDL ps
end
mutual
def okD : PV → Bool
  | .tup xs => okDL xs
  | .lst xs => okDL xs
  | .scr xs => okDL xs
  | .wtp xs => okDL xs
  | .dct _ _ => false
  | .obj _ => false
  | .exc _ _ _ => false
  | .exm _ _ => false
  | _ => true
def okDL : List PV → Bool
  | [] => true
  | p :: ps => okD p && okDL ps
end
mutual
theorem Rp.dp {ad : AD} {H : Hp} : ∀ (p : PV) (v : V), okD p = true → Rp ad K H p v → Dp K H v (toD p)
  | .non, v, _, h => by rw [h.non_inv]; unfold toD; exact .non
  | .bl b, v, _, h => by rw [h.bl_inv]; unfold toD; exact .bl b
  | .int i, v, _, h => by rw [h.int_inv]; unfold toD; exact .int i
  | .str x, v, _, h => by rw [h.str_inv]; unfold toD; exact .str x
  | .tup xs, v, ho, h => by
    obtain ⟨a, vs, e, h1, h2⟩ := h.tup_inv
    rw [e]
    unfold toD
    exact .tup h1 (RpL.dp xs vs (by unfold okD at ho; exact ho) h2)
  | .lst xs, v, ho, h => by
    obtain ⟨a, vs, e, h1, h3, h2⟩ := h.lst_inv
    rw [e]
    unfold toD
    exact .lst (SqL.of h1) (RpL.dp xs vs (by unfold okD at ho; exact ho) h2)
  | .scr xs, v, ho, h => by
    unfold Rp at h
    obtain ⟨a, vs, e, h1, h2⟩ := h
    rw [e]
    unfold toD
    rcases h1 with ⟨⟨o, h1⟩, _⟩ | h1
    · exact .lst (.inl (.inr ⟨o, h1⟩)) (RpL.dp xs vs (by unfold okD at ho; exact ho) h2)
    · exact .lst (.inr h1) (RpL.dp xs vs (by unfold okD at ho; exact ho) h2)
  | .wtp xs, v, ho, h => by
    unfold Rp at h
    obtain ⟨a, vs, e, h1, h2⟩ := h
    rw [e]
    unfold toD
    exact .tup h1.sq (RpL.dp xs vs (by unfold okD at ho; exact ho) h2)
  | .dct _ _, v, ho, h => by unfold okD at ho; cases ho
  | .obj _, v, ho, h => by unfold okD at ho; cases ho
theorem RpL.dp {ad : AD} {H : Hp} : ∀ (ps : List PV) (vs : List V), okDL ps = true → RpL ad K H ps vs → DpAll K H vs (toDL ps)
  | [], vs, _, h => by unfold RpL at h; subst h; unfold toDL; exact .nil
  | p :: ps, vs, ho, h => by
    unfold RpL at h
    obtain ⟨v, r, e, h1, h2⟩ := h
    subst e
    unfold okDL at ho
    rw [Bool.and_eq_true] at ho
    unfold toDL
    exact .cons (Rp.dp p v ho.1 h1) (RpL.dp ps r ho.2 h2)
end
theorem Rp.dpv {ad : AD} {H : Hp} {v : V} (m : Mst ad K H μ) (ho : okD (vw μ p) = true) (h : Rp ad K H p v) : Dp K H v (toD (vw μ p)) := by
  cases p with
  | obj n =>
    obtain ⟨a, e, h1⟩ := h.obj_inv
    unfold vw at ho ⊢
    dsimp only at ho ⊢
    cases q : μ[n]? with
    | none => rw [q] at ho; cases ho
    | some u =>
      rw [q] at ho
      have hm := m.mem n a u h1 q
      cases u with
      | lst xs =>
        obtain ⟨vs, hv, r⟩ := hm
        rw [e]
        dsimp only at ho ⊢
        unfold toD
        exact .lst (SqL.of hv) (RpL.dp xs vs (by unfold okD at ho; exact ho) r)
      | _ => cases ho
  | _ => exact Rp.dp _ v ho h
theorem oa_eqD (hu : X.A.units + 64 < cLine) (h1 : okD (vw μ p) = true) (h2 : okD (vw μ q) = true) (s1 : SeqAt.shaped (toD (vw μ p)) = true) (s2 : SeqAt.shaped (toD (vw μ q)) = true) : OpA X (compareOp .Eq) p q μ (.bl (PyData.eqv (toD (vw μ p)) (toD (vw μ q)))) :=
  ⟨_, op_eqD hu, fun ad H vx vy Q m rx ry f => ⟨_, _, rx.dpv m h1, ry.dpv m h2, s1, s2, f [] _ H Stp.refl (by rwa [AD.append_nil]) (Rp.bl' _)⟩⟩
theorem oa_neD (hu : X.A.units + 64 < cLine) (h1 : okD (vw μ p) = true) (h2 : okD (vw μ q) = true) (s1 : SeqAt.shaped (toD (vw μ p)) = true) (s2 : SeqAt.shaped (toD (vw μ q)) = true) : OpA X (compareOp .NotEq) p q μ (.bl (!PyData.eqv (toD (vw μ p)) (toD (vw μ q)))) :=
  ⟨_, op_neD hu, fun ad H vx vy Q m rx ry f => ⟨_, _, rx.dpv m h1, ry.dpv m h2, s1, s2, f [] _ H Stp.refl (by rwa [AD.append_nil]) (Rp.bl' _)⟩⟩
theorem oa_notInS {x y : Str} : OpA X (compareOp .NotIn) (.str x) (.str y) μ (.bl (!(!(Builtin.Str.occurrences y x 0 y.length 1).isEmpty))) :=
  ⟨_, op_notIn_str, fun ad H vx vy Q m rx ry f => ⟨x, y, rx.str_inv, ry.str_inv, f [] _ H Stp.refl (by rwa [AD.append_nil]) (Rp.bl' _)⟩⟩
/-! ### dicts that are only read -/
def keyPV : Key → PV
  | .inl i => .int i
  | .inr x => .str x
theorem Rp.key_inv {ad : AD} {H : Hp} {v : V} {kk : Key} (h : Rp ad K H (keyPV kk) v) : v = kV kk := by
  cases kk with
  | inl i => exact h.int_inv
  | inr z => exact h.str_inv
def lookD : List Key → List PV → Key → Option PV
  | k :: ks, v :: vs, q => if k = q then some v else lookD ks vs q
  | _, _, _ => none
theorem lookD_rp {ad : AD} {H : Hp} : ∀ {ks : List Key} {ps : List PV} {vs : List V} {q : Key} {r : PV}, RpL ad K H ps vs → ks.length = vs.length → lookD ks ps q = some r → ∃ v, valV (ks.zip vs) q = some v ∧ Rp ad K H r v
  | [], ps, vs, q, r, _, _, h => by unfold lookD at h; cases h
  | k :: ks, [], vs, q, r, _, _, h => by unfold lookD at h; cases h
  | k :: ks, p :: ps, vs, q, r, hr, hl, h => by
    unfold RpL at hr
    obtain ⟨v, w, e, h1, h2⟩ := hr
    subst e
    unfold lookD at h
    show ∃ u, valV ((k, v) :: ks.zip w) q = some u ∧ _
    by_cases hk : k = q
    · rw [if_pos hk] at h
      cases h
      exact ⟨v, valV_pos hk, h1⟩
    · rw [if_neg hk] at h
      rw [valV_neg hk]
      exact lookD_rp h2 (by simpa using hl) h
theorem DE.dget {ks : List Key} {vs : List PV} {kk : Key} (cx : CxD X P w K mg base N sc k) (ho : DE X o ρ μ (.dct ks vs) μ1) (hi : DE X e ρ μ1 (keyPV kk) μ2) (h : lookD ks vs kk = some r) (hs : NoSl e := by exact fun _ _ => rfl) : DE X (.Subscript o e pos) ρ μ r μ2 := fun ad σ H Q R f => by
  refine wE.of (pe_dget (hu_of cx.room) (pe_w o) (pe_w e) hs) (ho ad σ H _ R fun ad1 v H1 s1 m1 r1 => hi (ad ++ ad1) σ H1 _ (R.mono s1 m1) fun ad2 u H2 s2 m2 r2 => ?_)
  have r1' := r1.mono s2
  unfold Rp at r1'
  obtain ⟨l, ws, e1, ⟨h1, _⟩, hl, rl⟩ := r1'
  obtain ⟨z, hz, rz⟩ := lookD_rp rl hl h
  refine ⟨l, z, e1, ?_, (Fin1.step s2 (Fin1.step s1 f)) [] z H2 Stp.refl (by rwa [AD.append_nil]) (by rwa [AD.append_nil])⟩
  rw [r2.key_inv, ← hz]
  exact DGet.k h1
def DPs (X : Cx) (pos : Pos) (keys : List (Option Expr)) (values : List Expr) (ρ : Env) (μ : Mem) (ks : List Key) (ps : List PV) (μ' : Mem) : Prop :=
  ∃ trs, PPs X pos keys values trs ∧ ∀ ad σ H (Q : List (V × V) → Hp → Prop), Rst ad X.K H σ ρ μ →
    (∀ ad2 vs H', Stp ad ad2 H H' → Mst (ad ++ ad2) X.K H' μ' → ks.length = vs.length → RpL (ad ++ ad2) X.K H' ps vs → Q ((ks.zip vs).map fun kv => (kV kv.1, kv.2)) H') → tPairs trs σ H Q
theorem DPs.nil : DPs X pos [] [] ρ μ [] [] μ := ⟨[], pps_nil, fun ad σ H Q R f => f [] [] H Stp.refl R.nil rfl RpL.nil⟩
theorem DPs.cons {kk : Key} {keys : List (Option Expr)} {values : List Expr} {ks : List Key} {ps : List PV} (hk : DE X a ρ μ (keyPV kk) μ1) (hv : DE X b ρ μ1 p μ2) (h : DPs X pos keys values ρ μ2 ks ps μ3) : DPs X pos (some a :: keys) (b :: values) ρ μ (kk :: ks) (p :: ps) μ3 := by
  obtain ⟨trs, hp, hr⟩ := h
  refine ⟨_, pps_cons (pe_w a) (pe_w b) hp, fun ad σ H Q R f => ?_⟩
  refine hk ad σ H _ R fun ad1 v H1 s1 m1 r1 => hv (ad ++ ad1) σ H1 _ (R.mono s1 m1) fun ad2 u H2 s2 m2 r2 => ?_
  refine hr _ σ H2 _ ((R.mono s1 m1).mono s2 m2) fun ad3 vs H3 s3 m3 hl r3 => ?_
  have := f (ad1 ++ (ad2 ++ ad3)) (u :: vs) H3 (s1.trans (s2.trans s3)) (by rw [← AD.append_assoc, ← AD.append_assoc]; exact m3) (by simp [hl]) (by rw [← AD.append_assoc, ← AD.append_assoc]; exact RpL.cons (r2.mono s3) r3)
  rw [(r1).key_inv]
  exact this
theorem mergeK_nodup : ∀ (more kvs : List (Key × V)), ((kvs ++ more).map (·.1)).Nodup → mergeK kvs more = kvs ++ more
  | [], kvs, _ => by simp [mergeK]
  | kv :: more, kvs, h => by
    show mergeK (putK kvs kv.1 kv.2) more = _
    have hn : valV kvs kv.1 = none := by
      have : kv.1 ∉ kvs.map (·.1) := by
        rw [List.map_append, List.nodup_append] at h
        intro hm
        exact h.2.2 kv.1 hm kv.1 (by simp) rfl
      unfold valV
      rw [Option.map_eq_none_iff, List.find?_eq_none]
      intro y hy
      simp only [decide_eq_true_eq]
      intro e
      exact this (List.mem_map.mpr ⟨y, hy, e⟩)
    rw [putK_new _ hn]
    rw [mergeK_nodup more (kvs ++ [(kv.1, kv.2)]) (by simpa using h)]
    simp
theorem DE.disp {keys : List (Option Expr)} {values : List Expr} {ks : List Key} {ps : List PV} (h : DPs X pos keys values ρ μ ks ps μ') (hn : ks.Nodup := by decide +kernel) (hl : ks.length ≤ 15 := by exact Nat.le_of_ble_eq_true rfl) (hall : keys.all (·.isSome) = true := by rfl) (hkl : keys.length = values.length := by rfl) (h0 : keys ≠ [] := by exact List.cons_ne_nil _ _) (h15 : keys.length ≤ 15 := by exact Nat.le_of_ble_eq_true rfl) :
    DE X (.Dict keys values pos) ρ μ (.dct ks ps) μ' := fun ad σ H Q R f => by
  obtain ⟨trs, hp, hr⟩ := h
  refine wE.of (pe_disp hp hall hkl h0 h15) fun l hl0 => ?_
  refine hr _ σ _ _ (R.aside hl0) fun ad2 vs H2 s2 m2 hlen r2 => ?_
  rw [AD.aside_app] at m2 r2
  have h2 : H2 l = some (.dK []) := s2.asideK (R.aside hl0).m upd_same
  have hm : mergeK [] (ks.zip vs) = ks.zip vs := by
    have := mergeK_nodup (ks.zip vs) [] (by
      rw [List.nil_append, show (ks.zip vs).map (·.1) = ks from List.map_fst_zip (by omega)]
      exact hn)
    simpa using this
  refine ⟨h2, ks.zip vs, rfl, by rw [List.length_zip]; omega, ?_⟩
  rw [hm]
  refine f ad2 _ _ (Stp.aside hl0 s2) m2.asideW.back ?_
  unfold Rp
  refine ⟨l, vs, rfl, ⟨upd_same, fun z => ?_⟩, hlen, r2.asideW.back⟩
  have := m2.nd
  exact (List.nodup_cons.mp this).1 z

/-! ### list comprehensions -/
end
end L3

namespace L3
open PySem PySem.Spec L2
section
variable {X : Cx} {P : Program} {w : World} {K : PySem.W.Frag} {mg : Str → Option Value} {base : Heap} {N : List Str} {sc scope : Scope} {k j : Nat} {x : Str} {A : ASp} {ρ ρ' : Env} {μ μ1 μ2 μ3 μ' : Mem} {p q r : PV} {e a b c o tg : Expr} {es : List Expr} {pos cp : Pos} {D : AEnds} {kb : Bool} {st : Stmt} {sts : List Stmt}

/-! ### a block's context -/
theorem relabel_look {env : PySem.Env} {x : Str} {kd : NameKind} : ∀ {names : List (Str × NameKind)}, names.lookup x = some kd →
    (names.map fun (n, k) => if (k == NameKind.free && env.scope.kind == .function && env.kindOf n == some .cell) then (n, NameKind.cell) else (n, k)).lookup x = some kd ∨
    (kd = .free ∧ (names.map fun (n, k) => if (k == NameKind.free && env.scope.kind == .function && env.kindOf n == some .cell) then (n, NameKind.cell) else (n, k)).lookup x = some .cell)
  | [], h => by simp at h
  | (n, k) :: r, h => by
    have ih := @relabel_look env x kd r
    show List.lookup x ((if (k == NameKind.free && env.scope.kind == .function && env.kindOf n == some .cell) = true then (n, NameKind.cell) else (n, k)) :: _) = _ ∨ (_ ∧ List.lookup x ((if (k == NameKind.free && env.scope.kind == .function && env.kindOf n == some .cell) = true then (n, NameKind.cell) else (n, k)) :: _) = _)
    cases hx : x == n with
    | true =>
      simp only [List.lookup_cons, hx] at h
      cases h
      by_cases hc : (kd == NameKind.free && env.scope.kind == .function && env.kindOf n == some .cell) = true
      · rw [if_pos hc]
        refine .inr ⟨?_, by simp only [List.lookup_cons, hx]⟩
        rw [Bool.and_eq_true, Bool.and_eq_true] at hc
        exact eq_of_beq hc.1.1
      · rw [if_neg hc]
        exact .inl (by simp only [List.lookup_cons, hx])
    | false =>
      simp only [List.lookup_cons, hx] at h
      by_cases hc : (k == NameKind.free && env.scope.kind == .function && env.kindOf n == some .cell) = true
      · rw [if_pos hc]; simp only [List.lookup_cons, hx]; exact ih h
      · rw [if_neg hc]; simp only [List.lookup_cons, hx]; exact ih h
theorem CxD.blk (cx : CxD X P w K mg base N sc k) (s : Shared) (H : Hp) (C : Addr) (cl : List (Str × Addr)) (fp : List Addr) : CxD (X.blk s H scope (compEnvC scope cl C X.env) fp) P w K mg base N scope k where
  eP := cx.eP
  ew := cx.ew
  eK := cx.eK
  emg := cx.emg
  eb := cx.eb
  eN := cx.eN
  vis := fun y hy => by
    show Vis (relabel scope X.env) y
    rcases vis_of hy with z | z | z
    · rcases relabel_look (env := X.env) z with u | ⟨u, _⟩
      · exact .inl u
      · cases u
    · rcases relabel_look (env := X.env) z with u | ⟨u, _⟩
      · exact .inr (.inl u)
      · cases u
    · rcases relabel_look (env := X.env) z with u | ⟨_, u⟩
      · exact .inr (.inr u)
      · exact .inr (.inl u)
  sto := fun y hy => by
    show Loc (relabel scope X.env) y ∧ ((scope.names.lookup y == some .cell) = true ∨ (relabel scope X.env).names.lookup y = some .local)
    rcases loc_of hy with z | z
    · rcases relabel_look (env := X.env) z with u | ⟨u, _⟩
      · exact ⟨.inl u, .inr u⟩
      · cases u
    · rcases relabel_look (env := X.env) z with u | ⟨u, _⟩
      · exact ⟨.inr u, .inl (by rw [z]; rfl)⟩
      · cases u
  loc := fun y hy => by
    rcases relabel_look (env := X.env) hy with u | ⟨u, _⟩
    · exact u
    · cases u
  gl := fun y hy => by
    show (relabel scope X.env).names.lookup y = some .globalImplicit
    rcases relabel_look (env := X.env) hy with u | ⟨u, _⟩
    · exact u
    · cases u
  calm := cx.calm
  room := cx.room

/-! ### targets in a block -/
def setA (σ : L2.St) : List Nat → List V → L2.St
  | i :: is, v :: vs => setA (σ.set i (some v)) is vs
  | _, _ => σ
def setE (ρ : Env) : List Nat → List PV → Env
  | i :: is, v :: vs => setE (ρ.set i (some v)) is vs
  | _, _ => ρ
theorem RpE.setA {ad : AD} {H : Hp} : ∀ (is : List Nat) {ps : List PV} {vs : List V} {ρ : Env} {σ : L2.St}, RpE ad K H ρ σ → RpL ad K H ps vs → RpE ad K H (setE ρ is ps) (L3.setA σ is vs)
  | [], ps, vs, ρ, σ, h, r => by unfold L3.setA setE; exact h
  | i :: is, [], vs, ρ, σ, h, r => by
    unfold RpL at r
    subst r
    unfold L3.setA setE
    exact h
  | i :: is, p :: ps, vs, ρ, σ, h, r => by
    unfold RpL at r
    obtain ⟨v, w, e, r1, r2⟩ := r
    subst e
    unfold L3.setA setE
    exact RpE.setA is (h.set i r1) r2
theorem wipe_set {σ : L2.St} {i : Nat} {u : Option V} : ∀ {vs : List Nat}, i ∈ vs → wipe (σ.set i u) vs = wipe σ vs
  | [], h => nomatch h
  | v :: vs, h => by
    unfold wipe
    by_cases hv : i ∈ vs
    · rw [wipe_set hv]
    · have hiv : i = v := by
        rcases List.mem_cons.mp h with z | z
        · exact z
        · exact absurd z hv
      subst hiv
      rw [wipe_comm hv, List.set_set]
where
  wipe_comm {σ : L2.St} {i : Nat} {u : Option V} : ∀ {vs : List Nat}, i ∉ vs → wipe (σ.set i u) vs = (wipe σ vs).set i u
  | [], _ => rfl
  | v :: vs, h => by
    unfold wipe
    have h1 : i ≠ v := fun z => h (by rw [z]; exact List.mem_cons_self)
    have h2 : i ∉ vs := fun z => h (List.mem_cons_of_mem _ z)
    rw [wipe_comm h2, List.set_comm _ _ h1]
theorem wipe_setA : ∀ {is : List Nat} {us : List V} {σ : L2.St} {vs : List Nat}, (∀ i ∈ is, i ∈ vs) → wipe (setA σ is us) vs = wipe σ vs
  | [], us, σ, vs, _ => by unfold setA; rfl
  | i :: is, [], σ, vs, _ => by unfold setA; rfl
  | i :: is, u :: us, σ, vs, h => by
    unfold setA
    rw [wipe_setA fun j hj => h j (List.mem_cons_of_mem _ hj)]
    exact wipe_set (h i List.mem_cons_self)
def wipeE (ρ : Env) : List Nat → Env
  | [] => ρ
  | v :: vs => (wipeE ρ vs).set v none
theorem RpE.wipe {ad : AD} {H : Hp} {σ : L2.St} (h : RpE ad K H ρ σ) : ∀ vs : List Nat, RpE ad K H (wipeE ρ vs) (L2.wipe σ vs)
  | [] => h
  | v :: vs => by
    have ih := RpE.wipe h vs
    unfold wipeE L2.wipe
    refine ⟨by rw [List.length_set, List.length_set]; exact ih.len, fun i p e => ?_⟩
    rw [List.getElem?_set] at e ⊢
    by_cases hv : v = i
    · subst hv
      rw [if_pos rfl] at e
      split at e <;> cases e
    · rw [if_neg hv] at e ⊢
      exact ih.get i p e
theorem wipe_idem {σ : L2.St} : ∀ (vs us : List Nat), (∀ v ∈ vs, v ∈ us) → L2.wipe (L2.wipe σ vs) us = L2.wipe σ us
  | [], us, _ => rfl
  | v :: vs, us, h => by
    show L2.wipe ((L2.wipe σ vs).set v none) us = _
    rw [wipe_set (h v List.mem_cons_self)]
    exact wipe_idem vs us fun i hi => h i (List.mem_cons_of_mem _ hi)
/-- a target of plain names in any block of that scope -/
structure Tgt (P : Program) (w : World) (K : PySem.W.Frag) (mg : Str → Option Value) (base : Heap) (N : List Str) (scope : Scope) (k : Nat) (tg : Expr) (is : List Nat) (f : PV → Option (List PV)) : Prop where
  ex : ∃ g, (∀ X', CxD X' P w K mg base N scope k → PG X' tg g) ∧ ∀ ad H p qs v σ Q, f p = some qs → Rp ad K H p v → (∀ us, RpL ad K H qs us → Q (setA σ is us) H) → g v σ H Q
theorem CxD.tgt (cx : CxD X P w K mg base N sc k) (nd : N.Nodup) (i : Nat) (hN : N[i]? = some x) (hs : stoB sc x = true) : ∀ {pos : Pos}, PG X (.Name x pos) (gName i) :=
  fun {pos} => pg_name (by rw [cx.eN]; exact nd) (by rw [cx.eN]; exact hN) (cx.sto x hs).1 (cx.sto x hs).2
theorem Tgt.name (nd : N.Nodup) (i : Nat) (hN : N[i]? = some x) (hs : stoB scope x = true) : Tgt P w K mg base N scope k (.Name x pos) [i] (fun p => some [p]) :=
  ⟨_, fun X' cx => cx.tgt nd i hN hs, fun ad H p qs v σ Q e r h => by
    cases e
    exact h [v] (RpL.cons r RpL.nil)⟩
/-! ### the rule -/
/-- the tests of a clause, all at once -/
def wTs (X : Cx) (ifs : List Expr) : TT := fun σ H Q => ∀ pins s, Inv X pins σ H s →
  wpAny (model X.prog X.w) X.A (forIn ifs true fun c r => if r = true then do let ok ← isTrue c X.env (eval c X.env); pure (ForInStep.yield ok) else pure (ForInStep.yield r)) (TP X pins σ Q) X.xe s
def WTs (X : Cx) (ifs : List Expr) (ρ : Env) (μ : Mem) (Qa : Bool → Mem → Prop) : Prop :=
  ∀ ad σ H (Q : Bool → Hp → Prop), Rst ad X.K H σ ρ μ → (∀ ad2 b H' μ', Stp ad ad2 H H' → Mst (ad ++ ad2) X.K H' μ' → Qa b μ' → Q b H') → wTs X ifs σ H Q
theorem wTs.of {ifs : List Expr} {t : TT} {σ : L2.St} {H : Hp} {Q : Bool → Hp → Prop} (h : PTs X ifs t) (q : t σ H Q) : wTs X ifs σ H Q := fun pins s I => h.run pins s σ H Q I q
theorem WTs.nil {Qa : Bool → Mem → Prop} (h : Qa true μ) : WTs X [] ρ μ Qa := fun ad σ H Q R f => wTs.of pts_nil (f [] true H μ Stp.refl R.nil h)
theorem WTs.one {Qa : Bool → Mem → Prop} (h : WT X c ρ μ Qa) : WTs X [c] ρ μ Qa := fun ad σ H Q R f => wTs.of (pts_one (pt_w c)) (h ad σ H Q R f)
/-- the reading of a comprehension -/
theorem comp_rd {elt iter : Expr} {ifs : List Expr} {own : List (Str × Nat)} {is : List Nat} {ff : PV → Option (List PV)} {xs : List PV} {M : Mem → Prop} {Qa : PV → Mem → Prop} (cx : CxF X P w K mg base N sc k)
    (hi : DI X tg iter ρ μ xs M μ1) (ok : blkC N sc scope own = true) (tgt : Tgt P w K mg base N scope k tg is ff) (his : ∀ i ∈ is, i ∈ own.map (·.2))
    (Iv : Nat → List PV → Mem → Prop) (h0 : Iv 0 [] μ1) (hM : ∀ i ys m, Iv i ys m → M m)
    (turn : ∀ (i : Nat) p ys m, xs[i]? = some p → Iv i ys m → ∃ qs, ff p = some qs ∧ ∀ X', CxD X' P w K mg base N scope k →
      WTs X' ifs (setE (wipeE ρ (own.map (·.2))) is qs) m fun b m2 => if b = true then (∀ X', CxD X' P w K mg base N scope k → WE X' elt (setE (wipeE ρ (own.map (·.2))) is qs) m2 fun y m3 => ys.length < sizeLine ∧ Iv (i + 1) (ys ++ [y]) m3) else Iv (i + 1) ys m2)
    (fin : ∀ ys m, Iv xs.length ys m → Qa (.lst ys) m) :
    BlkOk X.N X.env.scope scope own ∧ ∃ (wi : TI) (g : TG) (tt : TT) (te : TE), PI X tg iter wi ∧
      (∀ (s0 : Shared) (H0 : Hp) (C : Addr) (cl : List (Str × Addr)) (fp : List Addr), PG (X.blk s0 H0 scope (compEnvC scope cl C X.env) fp) tg g) ∧
      (∀ (s0 : Shared) (H0 : Hp) (C : Addr) (cl : List (Str × Addr)) (fp : List Addr), PTs (X.blk s0 H0 scope (compEnvC scope cl C X.env) fp) ifs tt) ∧
      (∀ (s0 : Shared) (H0 : Hp) (C : Addr) (cl : List (Str × Addr)) (fp : List Addr), PE (X.blk s0 H0 scope (compEnvC scope cl C X.env) fp) elt te) ∧
      ∀ ad σ H (Q : VK), Rst ad X.K H σ ρ μ → (∀ ad2 v H' p μ', Stp ad ad2 H H' → Mst (ad ++ ad2) X.K H' μ' → Rp (ad ++ ad2) X.K H' p v → Qa p μ' → Q v H') → tLc wi g tt te (own.map (·.2)) σ H Q := by
  obtain ⟨wi, hpi, hwi⟩ := hi
  obtain ⟨g, hg, hgr⟩ := tgt.ex
  have hb : BlkOk X.N X.env.scope scope own := by
    rw [cx.eN, cx.esc]
    exact blkOk_by ok
  refine ⟨hb, wi, g, (fun σ' H' Q' => ∀ (s0 : Shared) (H0 : Hp) (C : Addr) (cl : List (Str × Addr)) (fp : List Addr), wTs (X.blk s0 H0 scope (compEnvC scope cl C X.env) fp) ifs σ' H' Q'),
    (fun σ' H' Q' => ∀ (s0 : Shared) (H0 : Hp) (C : Addr) (cl : List (Str × Addr)) (fp : List Addr), wE (X.blk s0 H0 scope (compEnvC scope cl C X.env) fp) elt σ' H' Q'), hpi,
    (fun s0 H0 C cl fp => hg _ (cx.toCxD.blk s0 H0 C cl fp)), (fun s0 H0 C cl fp => ⟨fun pins s σ' H' Q' I h => h s0 H0 C cl fp pins s I⟩), (fun s0 H0 C cl fp => ⟨fun pins s σ' H' Q' I h => (h s0 H0 C cl fp).go pins s I⟩), fun ad σ H Q R f => ?_⟩
  refine hwi ad σ H _ R fun ad1 J H1 s1 m1 wk => ?_
  intro l hl
  -- the list in the making: at l, tracked, set aside
  let G : Nat → Hp → Prop := fun i H' => ∃ adx m ys vs, (∀ o', Stp (ad ++ ad1) adx H1 (upd H' l o')) ∧ Mst ((ad ++ ad1 ++ adx).aside l) X.K H' m ∧ H' l = some (.lst vs) ∧
    Keep X.K (ad ++ ad1) H1 ((ad ++ ad1 ++ adx).aside l) H' ∧ RpL ((ad ++ ad1 ++ adx).aside l) X.K H' ys vs ∧ Iv i ys m
  have st0 : ∀ o', Stp (ad ++ ad1) [] H1 (upd (upd H1 l (.lst [])) l o') := fun o' => by rw [upd_upd]; exact Stp.data hl
  refine ⟨fun i mm H' => mm = xs.length - i ∧ i ≤ xs.length ∧ G i H', ⟨_, rfl, Nat.zero_le _, [], μ1, [], [], st0, by rw [AD.append_nil]; exact m1.aside hl, upd_same, by rw [AD.append_nil]; exact fun p v r => r.aside hl, RpL.nil, h0⟩, ?_⟩
  rintro i mm H' ⟨rfl, hle, adx, m, ys, vs, s2, m2, hl2, kp, ry, iv⟩
  obtain ⟨w1, w2, w3⟩ := wk _ H' m kp m2 (hM i ys m iv)
  by_cases hlt : i < xs.length
  · refine .inr ⟨w1 i hlt, G (i + 1), fun H3 g3 => ⟨xs.length - (i + 1), by omega, rfl, hlt, g3⟩, fun x H2 y => ?_⟩
    have e : xs[i]? = some xs[i] := by simp [hlt]
    obtain ⟨s3, m3, r3, kp3⟩ := w3 i _ x H2 e y
    have hl3 : H2 l = some (.lst vs) := s3.asideK m2 hl2
    have ry3 := kp3.all _ _ ry
    have E2 : RpE ((ad ++ ad1 ++ adx).aside l) X.K H2 ρ σ := ⟨R.e.len, fun j p ej => by
      obtain ⟨v, e1, r1⟩ := R.e.get j p ej
      exact ⟨v, e1, kp3 _ _ (kp _ _ (r1.mono s1))⟩⟩
    rw [cx.eK] at r3
    obtain ⟨qs, hq, ht⟩ := turn i _ ys m e iv
    refine hgr _ H2 _ qs x _ _ hq r3 fun us ru => ?_
    rw [← cx.eK] at ru
    have hw : wipe (setA (wipe σ (own.map (·.2))) is us) (own.map (·.2)) = wipe σ (own.map (·.2)) := by
      rw [wipe_setA his, wipe_idem _ _ fun _ h => h]
    refine ⟨hw, ?_⟩
    have R3 : Rst ((ad ++ ad1 ++ adx).aside l) X.K H2 (setA (wipe σ (own.map (·.2))) is us) (setE (wipeE ρ (own.map (·.2))) is qs) m := ⟨m3, RpE.setA is (E2.wipe _) ru⟩
    have st3 : ∀ {ad4 : List Addr} {H4 : Hp}, Stp ((ad ++ ad1 ++ adx).aside l) ad4 H2 H4 → ∀ o', Stp (ad ++ ad1) (adx ++ ad4) H1 (upd H4 l o') := fun {ad4 H4} s4 o' => by
      have s34 : Stp ((ad ++ ad1 ++ adx).aside l) ad4 H' H4 := by
        have z := s3.trans (by rw [AD.append_nil]; exact s4)
        simpa using z
      have a := s2 (.lst vs)
      refine ⟨fun c u hc hn => ?_, fun c u hc => ?_, fun c hc => ?_⟩
      · have ne : c ≠ l := ne_of_none hc hl
        rw [upd_ne ne]
        have h1 := a.keep c u hc hn
        rw [upd_ne ne] at h1
        refine s34.keep c u h1 fun hm => ?_
        rcases AD.os_append (show c ∈ (ad ++ ad1 ++ adx).os from hm) with z | z
        · exact hn z
        · have := a.new c z
          rw [this] at hc
          cases hc
      · have ne : c ≠ l := ne_of_none hc hl
        obtain ⟨u1, h1⟩ := a.there c u hc
        rw [upd_ne ne] at h1
        obtain ⟨u2, h2⟩ := s34.there c u1 h1
        exact ⟨u2, by rw [upd_ne ne]; exact h2⟩
      · rcases List.mem_append.mp hc with z | z
        · exact a.new c z
        · have hn := s34.new c z
          cases q : H1 c with
          | none => rfl
          | some u =>
            have ne : c ≠ l := ne_of_none q hl
            obtain ⟨u1, h1⟩ := a.there c u q
            rw [upd_ne ne, hn] at h1
            cases h1
    -- the tests, then the element: in every block of that scope
    intro s0 H0 C cl fp
    refine ht _ (cx.toCxD.blk s0 H0 C cl fp) _ _ H2 _ R3 fun ad4 b H4 m4 s4 M4 q4 => ?_
    have hl4 : H4 l = some (.lst vs) := s4.asideK m3 hl3
    have ry4 := RpL.mono (K := X.K) s4 _ _ ry3
    have R4 := R3.mono s4 M4
    have kp4 : Keep X.K (ad ++ ad1) H1 ((ad ++ ad1 ++ adx).aside l ++ ad4) H4 := (kp.trans kp3).trans s4.kept
    cases b with
    | false =>
      rw [if_neg (by decide)] at q4 ⊢
      exact ⟨adx ++ ad4, m4, ys, vs, st3 s4, by rw [← AD.append_assoc]; exact M4, hl4, by rw [← AD.append_assoc]; exact kp4, by rw [← AD.append_assoc]; exact ry4, q4⟩
    | true =>
      rw [if_pos rfl] at q4 ⊢
      intro s0' H0' C' cl' fp'
      refine q4 _ (cx.toCxD.blk s0' H0' C' cl' fp') _ _ H4 _ R4 fun ad5 u H5 y m5 s5 M5 r5 q5 => ?_
      have hl5 : H5 l = some (.lst vs) := Stp.asideK (ad := ad ++ ad1 ++ adx ++ ad4) s5 M4 hl4
      have ry5 := RpL.mono (K := X.K) s5 _ _ ry4
      refine ⟨vs, hl5, by rw [← ry.length]; exact q5.1, ?_⟩
      have ea : (ad ++ ad1 ++ adx).aside l ++ ad4 ++ ad5 = (ad ++ ad1 ++ (adx ++ (ad4 ++ ad5))).aside l := by
        rw [AD.aside_app, AD.aside_app, AD.append_assoc, AD.append_assoc]
      rw [ea] at M5 r5 ry5
      have kp5 : Keep X.K (ad ++ ad1) H1 ((ad ++ ad1 ++ (adx ++ (ad4 ++ ad5))).aside l) H5 := by
        have := kp4.trans s5.kept
        rwa [ea] at this
      refine ⟨adx ++ (ad4 ++ ad5), m5, ys ++ [y], vs ++ [u], fun o' => ?_, M5.asideW, upd_same, kp5.asideW, (ry5.append (RpL.cons r5 RpL.nil)).asideW, q5.2⟩
      rw [upd_upd]
      exact st3 (s4.trans s5) o'
  · have e : i = xs.length := by omega
    subst e
    have sl := s2 (.lst vs)
    have eu : upd H' l (.lst vs) = H' := by
      funext c
      by_cases hc : c = l
      · subst hc; rw [upd_same]; exact hl2.symm
      · exact upd_ne hc
    rw [eu] at sl
    refine .inl ⟨w2, f (ad1 ++ adx) (.ref l) H' (.lst ys) m (s1.trans sl) (by rw [← AD.append_assoc]; exact m2.back) ?_ (fin ys m iv)⟩
    rw [← AD.append_assoc]
    unfold Rp
    exact ⟨l, vs, rfl, ⟨hl2, fun z => (List.nodup_cons.mp m2.nd).1 z⟩, ry.back⟩
/-- [elt for tg in iter if ..] -/
theorem WE.comp {elt iter : Expr} {ifs : List Expr} {own : List (Str × Nat)} {is : List Nat} {ff : PV → Option (List PV)} {xs : List PV} {M : Mem → Prop} {Qa : PV → Mem → Prop} (cx : CxF X P w K mg base N sc k)
    (hi : DI X tg iter ρ μ xs M μ1) (ok : blkC N sc scope own = true) (tgt : Tgt P w K mg base N scope k tg is ff) (his : ∀ i ∈ is, i ∈ own.map (·.2))
    (Iv : Nat → List PV → Mem → Prop) (h0 : Iv 0 [] μ1) (hM : ∀ i ys m, Iv i ys m → M m)
    (turn : ∀ (i : Nat) p ys m, xs[i]? = some p → Iv i ys m → ∃ qs, ff p = some qs ∧ ∀ X', CxD X' P w K mg base N scope k →
      WTs X' ifs (setE (wipeE ρ (own.map (·.2))) is qs) m fun b m2 => if b = true then (∀ X', CxD X' P w K mg base N scope k → WE X' elt (setE (wipeE ρ (own.map (·.2))) is qs) m2 fun y m3 => ys.length < sizeLine ∧ Iv (i + 1) (ys ++ [y]) m3) else Iv (i + 1) ys m2)
    (fin : ∀ ys m, Iv xs.length ys m → Qa (.lst ys) m)
    (hs : ∀ x, foldedSetIterable iter X.env x = pure x := by intro _; rfl) : WE X (.ListComp elt [⟨tg, iter, ifs, 0⟩] scope pos) ρ μ Qa := fun ad σ H Q R f => by
  obtain ⟨hb, wi, g, tt, te, hpi, hg, ht, he, rd⟩ := comp_rd (Qa := Qa) cx hi ok tgt his Iv h0 hM turn fin
  exact wE.of (pe_lc cx.calm cx.nd' hpi hb hg ht he hs) (rd ad σ H Q R f)
/-- name = [elt for tg in iter if ..], the name a plain local -/
theorem CxF.setLc {elt iter : Expr} {ifs : List Expr} {own : List (Str × Nat)} {is : List Nat} {ff : PV → Option (List PV)} {xs : List PV} {M : Mem → Prop} {y : Str} {py spos : Pos} (i : Nat) (cx : CxF X P w K mg base N sc k)
    (hy : N[i]? = some y) (hyl : sc.names.lookup y = some .local) (hl : (py.line == pos.line) = true) (hsc : (scope.names.any fun (n, k) => n == y && (k == .local || k == .cell)) = false)
    (hi : DI X tg iter ρ μ xs M μ1) (ok : blkC N sc scope own = true) (tgt : Tgt P w K mg base N scope k tg is ff) (his : ∀ i ∈ is, i ∈ own.map (·.2))
    (Iv : Nat → List PV → Mem → Prop) (h0 : Iv 0 [] μ1) (hM : ∀ i ys m, Iv i ys m → M m)
    (turn : ∀ (i : Nat) p ys m, xs[i]? = some p → Iv i ys m → ∃ qs, ff p = some qs ∧ ∀ X', CxD X' P w K mg base N scope k →
      WTs X' ifs (setE (wipeE ρ (own.map (·.2))) is qs) m fun b m2 => if b = true then (∀ X', CxD X' P w K mg base N scope k → WE X' elt (setE (wipeE ρ (own.map (·.2))) is qs) m2 fun y m3 => ys.length < sizeLine ∧ Iv (i + 1) (ys ++ [y]) m3) else Iv (i + 1) ys m2)
    (fin : ∀ ys m, Iv xs.length ys m → DSs X sts (ρ.set i (some (.lst ys))) m D)
    (hs : ∀ x, foldedSetIterable iter X.env x = pure x := by intro _; rfl) : DSs X (.Assign [.Name y py] (.ListComp elt [⟨tg, iter, ifs, 0⟩] scope pos) spos :: sts) ρ μ D := by
  refine DSs.cons fun ad σ H Dc R C => ?_
  obtain ⟨hb, wi, g, tt, te, hpi, hg, ht, he, rd⟩ := comp_rd (Qa := fun p m => DSs X sts (ρ.set i (some p)) m D) cx hi ok tgt his Iv h0 hM turn fin
  have hyl' : X.env.scope.names.lookup y = some .local := by rw [cx.esc]; exact hyl
  refine wS.of (ps_setLc cx.calm cx.nd' (by rw [cx.eN]; exact hy) hyl' (sw_true (by rw [cx.esc]; exact cx.kind) hyl' hl hsc) hpi hb hg ht he hs) (rd ad σ H _ R fun ad2 v H' p μ' s m r q => ?_)
  exact C.nx ad2 _ H' _ μ' s ⟨m, (R.mono s m).e.set i r⟩ q
end
end L3

namespace L3
open PySem PySem.Spec L2
/-- the law: of every script it hands back True -/
def spLaw : ASp := fun args μ Q _ => ∃ ns : List Int, args = [.scr (ns.map PV.int)] ∧ μ = [] ∧ ns.length ≤ 63 ∧ (∀ z ∈ ns, Builtin.Int.intBits z ≤ 1048576) ∧ Q (.bl true) []
theorem CX_false {P : Program} {w : World} {outer : List PySem.Env} {H : Hp} {s : Shared} {u : Value} {s' : Shared} (h : L2.CX P w outer H s (fun _ _ _ => False) u s') : False := by
  obtain ⟨_, _, _, _, _, _, _, _, _, _, _, _, hE⟩ := h
  exact hE
theorem RpL.scr_ints {K : PySem.W.Frag} {ad : AD} {H : Hp} {ns : List Int} : RpL ad K H (ns.map PV.int) (ns.map V.int) := RpL.of_ints
theorem walk {l : PySem.W.OpenLaw} {q : Program} {loose : List Str} {XP : (Str → Option Value) → Heap → Prop} {YP : World → Heap → Prop} {d : DefRec} {K : Params → PySem.W.Frag} {k : Nat} (hn : l.most = some 63) (hdf : d.params.defaults = [])
    (hr : Room k callerA) (hY : ∀ (w : World) (h : Heap), YP w h → (K w.params).In h)
    (F : ∀ (w : World) (mg : Str → Option Value) (fa : Addr) (h : Heap), (K w.params).In h → h.Ns mainGlobals mg → mg d.name = some (.ref fa) →
      ∃ fd : FuncData, (∀ (s : Shared) (u : Value), BindsTo s fd ⟨[u], []⟩ [("script", u)]) ∧ ∀ base : Heap, (K w.params).In base → base.Ns mainGlobals mg → FnOk l.prog w (K w.params) mg base (L2.CX l.prog w) k fa fd ["script"] (conc (K w.params) spLaw)) :
    PySem.W.WalkO q loose XP YP l.row.toRowW d [] (fun f vs => PySem.call f vs) := by
  refine L2.walk_ofB (n := 63) (k := k) (x := "script") (CX := fun w => L2.CX l.prog w) (sp := fun w => conc (K w.params) spLaw) hn (by decide) hdf hr hY F ?_ fun _ _ _ _ _ z => CX_false z
  intro w H a ns hl hb hO hS
  refine ⟨⟨0, []⟩, [], [.scr (ns.map PV.int)], (fun r _ => r = .bl true), (fun _ _ => False), ?_, ?_, ⟨ns, rfl, rfl, hl, hb, rfl⟩, ?_, fun _ _ _ _ _ _ _ _ _ h => h⟩
  · exact ⟨List.nodup_nil, rfl, fun k a m h _ => by simp [AD.at] at h, fun i a h _ => absurd h (Nat.not_lt_zero _), fun a h => nomatch h⟩
  · refine RpL.cons ?_ RpL.nil
    unfold Rp
    refine ⟨a, ns.map V.int, rfl, ?_, RpL.scr_ints⟩
    rcases hS with h | h
    · rcases h with h | ⟨o, h⟩
      · rcases hO a with z | ⟨o, xs, z⟩
        · rw [z] at h; cases h
        · rw [z] at h; cases h
      · exact .inl ⟨⟨o, h⟩, fun z => nomatch z⟩
    · exact .inr h
  · intro ad2 H' μ' r v _ _ rr e
    rw [e] at rr
    exact rr.bl_inv
end L3

namespace L3
open PySem PySem.Spec L2
/-! ### sizes of whole numbers -/
def B (n : Nat) (x : Int) : Prop := x.natAbs < 2 ^ n
instance {n : Nat} {x : Int} : Decidable (B n x) := inferInstanceAs (Decidable (x.natAbs < 2 ^ n))
theorem B.le {n m : Nat} {x : Int} (h : B n x) (l : n ≤ m) : B m x := Nat.lt_of_lt_of_le h (Nat.pow_le_pow_right (by decide) l)
theorem B.eq {n : Nat} {x y : Int} (e : y = x) (h : B n x) : B n y := by rw [e]; exact h
theorem B.mul {n m : Nat} {x y : Int} (h : B n x) (h' : B m y) : B (n + m) (x * y) := wide_lt h h'
theorem B.add {n m : Nat} {x y : Int} (h : B n x) (h' : B m y) : B (max n m + 1) (x + y) := by
  have h1 := h.le (Nat.le_max_left n m)
  have h2 := h'.le (Nat.le_max_right n m)
  unfold B at h1 h2 ⊢
  rw [Nat.pow_succ]
  omega
theorem B.neg {n : Nat} {x : Int} (h : B n x) : B n (-x) := by unfold B at h ⊢; omega
theorem B.sub {n m : Nat} {x y : Int} (h : B n x) (h' : B m y) : B (max n m + 1) (x - y) := by
  rw [Int.sub_eq_add_neg]
  exact h.add h'.neg
theorem B.mod {m : Nat} {x y : Int} (p : 0 < y) (h : B m y) : B m (x % y) := by
  unfold B at h ⊢
  have h1 := Int.emod_nonneg x (show y ≠ 0 by omega)
  have h2 := Int.emod_lt_of_pos x p
  omega
theorem B.abs {n : Nat} {x : Int} (h : B n x) : B n ((x.natAbs : Nat) : Int) := by unfold B at h ⊢; omega
theorem B.ite {n m : Nat} {x y : Int} {c : Bool} (h : B n x) (h' : B m y) : B (Nat.max n m) (if c = true then x else y) := by
  have h1 := h.le (Nat.le_max_left n m)
  have h2 := h'.le (Nat.le_max_right n m)
  cases c <;> simp <;> assumption
theorem B.rng {n : Nat} {x a : Int} (h1 : -a ≤ x) (h2 : x ≤ a) (h : a.natAbs < 2 ^ n) : B n x := by unfold B; omega
theorem mulW {n m : Nat} {x y : Int} (h : B n x) (h' : B m y) (l : n + m ≤ 900000) : CMulW x y := wide_mul (h.le (Nat.le_succ n)) (h'.le (Nat.le_succ m)) (Nat.succ_pos _) (Nat.succ_pos _) (by omega)
theorem divW {m : Nat} {x y : Int} (p : 0 < y) (h : B m y) (l : m ≤ 8000) : CDivW x y := wide_div p (h.le (Nat.le_succ m)) (Nat.succ_pos _) (by omega)
/-! ### letters for what is stored -/
mutual
def gen : PV → (PV → Prop) → Prop
  | .int z, k => ∀ z', z' = z → k (.int z')
  | .tup ps, k => genL ps fun qs => k (.tup qs)
  | p, k => k p
def genL : List PV → (List PV → Prop) → Prop
  | [], k => k []
  | p :: ps, k => gen p fun q => genL ps fun qs => k (q :: qs)
end
mutual
theorem gen_out : ∀ (p : PV) (k : PV → Prop), gen p k → k p
  | .int z, k, h => by unfold gen at h; exact h z rfl
  | .tup ps, k, h => by unfold gen at h; exact genL_out ps _ h
  | .non, k, h => by unfold gen at h; exact h
  | .bl _, k, h => by unfold gen at h; exact h
  | .str _, k, h => by unfold gen at h; exact h
  | .lst _, k, h => by unfold gen at h; exact h
  | .scr _, k, h => by unfold gen at h; exact h
  | .wtp _, k, h => by unfold gen at h; exact h
  | .dct _ _, k, h => by unfold gen at h; exact h
  | .obj _, k, h => by unfold gen at h; exact h
  | .exc _ _ _, k, h => by unfold gen at h; exact h
  | .exm _ _, k, h => by unfold gen at h; exact h
theorem genL_out : ∀ (ps : List PV) (k : List PV → Prop), genL ps k → k ps
  | [], k, h => by unfold genL at h; exact h
  | p :: ps, k, h => by
    unfold genL at h
    exact genL_out ps _ (gen_out p _ h)
end
section
variable {X : Cx} {P : Program} {w : World} {K : PySem.W.Frag} {mg : Str → Option Value} {base : Heap} {N : List Str} {sc : Scope} {k j : Nat} {x : Str} {A : ASp} {ρ ρ' : Env} {μ μ1 μ2 μ' : Mem} {p q r : PV} {e a b tg : Expr} {es : List Expr} {pos cp : Pos} {D : AEnds} {st : Stmt} {sts : List Stmt}
/-- name = value; its whole numbers get letters -/
theorem CxF.setG (cx : CxF X P w K mg base N sc k) (i : Nat) (hN : N[i]? = some x) (hs : stoB sc x = true) {pos pos' : Pos} (h : DE X e ρ μ p μ1) (hn : gen p fun p' => DSs X sts (ρ.set i (some p')) μ1 D)
    (hsw : swapsWith e (some (.Name x pos')) pos.line X.env = pure false := by rfl) : DSs X (.Assign [.Name x pos'] e pos :: sts) ρ μ D :=
  DSs.cons (CxF.set cx i hN hs h (gen_out p _ hn) hsw)
theorem CxF.setGW (cx : CxF X P w K mg base N sc k) (i : Nat) (hN : N[i]? = some x) (hs : stoB sc x = true) {pos pos' : Pos} (h : WE X e ρ μ fun p m => DSs X sts (ρ.set i (some p)) m D)
    (hsw : swapsWith e (some (.Name x pos')) pos.line X.env = pure false := by rfl) : DSs X (.Assign [.Name x pos'] e pos :: sts) ρ μ D :=
  DSs.cons (CxF.setW cx i hN hs h hsw)
theorem DSs.ifc {c : Expr} {kb : Bool} {A' B' : List Stmt} (hc : DT X c ρ μ kb μ1) (ht : kb = true → DSs X A' ρ μ1 { D with nx := fun ρ' μ' => DSs X sts ρ' μ' D }) (hf : kb = false → DSs X B' ρ μ1 { D with nx := fun ρ' μ' => DSs X sts ρ' μ' D }) : DSs X (.If c A' B' pos :: sts) ρ μ D :=
  DSs.cons (DS.ife hc ht hf)
theorem DSs.ifcW {c : Expr} {A' B' : List Stmt} (hc : WT X c ρ μ fun z m => if z = true then DSs X A' ρ m { D with nx := fun ρ' μ' => DSs X sts ρ' μ' D } else DSs X B' ρ m { D with nx := fun ρ' μ' => DSs X sts ρ' μ' D }) : DSs X (.If c A' B' pos :: sts) ρ μ D :=
  DSs.cons (DS.ifeW hc)
theorem DSs.ret1 (h : DE X e ρ μ p μ') (hr : D.rt p μ') : DSs X (.Return (some e) pos :: sts) ρ μ D := DSs.cons (DS.ret h hr)
theorem DSs.ret1W (h : WE X e ρ μ fun p m => D.rt p m) : DSs X (.Return (some e) pos :: sts) ρ μ D := DSs.cons (DS.retW h)
/-- a def's end: what it hands back is told elsewhere -/
theorem fin_same {μ0 : Mem} {Q : PV → Mem → Prop} (h : Q r μ) (e : p = r) : ∃ r' μ', Done μ0 p μ r' μ' ∧ Q r' μ' := ⟨r, μ, by rw [e]; exact .same _ _, h⟩
structure DefAt (K : PySem.W.Frag) (mg : Str → Option Value) (x : Str) (st : Stmt) (ps : List Str) : Prop where
  ex : ∃ f fd, Fun K x x st f fd ∧ mg x = some (.ref f) ∧ Binds K fd ps []
theorem DefAt.ok {ps : List Str} (d : DefAt K mg x st ps) (S : FnScope N ps (defScope st)) (len : ∀ args μ Q E, A args μ Q E → args.length = ps.length)
    (body : ∀ (X : Cx) (args : List PV) (μ : Mem) (Q : PV → Mem → Prop) (E : EX → Mem → Prop), CxF X P w K mg base N (defScope st) k → A args μ Q E → DSs X (defBody st) (entry N args) μ (fnEnds μ Q)) : FnA P w K mg base (k + 1) x A := by
  obtain ⟨f, fd, F, hm, hB⟩ := d.ex
  exact FnA.of F hm S hB len body
theorem oa_powL {i j r : Int} (h : CPow i j) (e : i ^ j.toNat = r) : OpA X (binaryOp .Pow) (.int i) (.int j) μ (.int r) := by rw [← e]; exact oa_pow h
theorem asL_obj {n : Nat} {xs : List PV} (h : μ[n]? = some (.lst xs)) : asL μ (.obj n) = some xs := by
  unfold asL
  dsimp only
  rw [h]
theorem asK_obj {n : Nat} {xs : List PV} (h : μ[n]? = some (.lst xs)) : asK μ (.obj n) = some xs := by
  unfold asK
  dsimp only
  rw [h]
theorem mset {n : Nat} {m m' : MO} (h : μ[n]? = some m) : (μ.set n m')[n]? = some m' := by
  have : n < μ.length := (List.getElem?_eq_some_iff.mp h).1
  simp [this]
theorem set_same {n : Nat} {m : MO} (h : μ[n]? = some m) : μ = μ.set n m := by
  have hk : n < μ.length := (List.getElem?_eq_some_iff.mp h).1
  rw [List.getElem?_eq_getElem hk] at h
  rw [← Option.some.inj h, List.set_getElem_self hk]
theorem at_b2i {kb : Bool} {i j : Int} : atI [PV.int i, PV.int j] (if kb = true then 1 else 0) = some (.int (if kb = true then j else i)) := by
  cases kb <;> rfl
theorem fin_mem {μ0 : Mem} {Q : PV → Mem → Prop} (h : Q r μ2) (e : p = r) (em : μ = μ2) : ∃ r' μ', Done μ0 p μ r' μ' ∧ Q r' μ' := ⟨r, μ2, by rw [e, em]; exact .same _ _, h⟩
def IxA (X : Cx) (x y : PV) (μ : Mem) (p : PV) : Prop :=
  ∃ r : R2, IxR X r ∧ ∀ ad H vx vy Q, Mst ad X.K H μ → Rp ad X.K H x vx → Rp ad X.K H y vy → Fin1 X ad H μ p Q → r vx vy H Q
theorem ia_lst {xs : List PV} {i : Int} (hl : asL μ p = some xs) (h : atI xs i = some r) : IxA X p (.int i) μ r :=
  ⟨_, ix_list, fun ad H vx vy Q m rx ry f => by
    obtain ⟨l, vs, e1, h1, r1⟩ := rx.asL_inv hl m
    obtain ⟨v, e2, r2⟩ := atI_rp r1 h
    exact ⟨l, vs, i, v, e1, ry.int_inv, h1, e2, f [] v H Stp.refl (by rwa [AD.append_nil]) (by rwa [AD.append_nil])⟩⟩
theorem ia_str {z : Str} {i : Int} {c : Nat} (h : atI z.cps.toList i = some c) (hz : z.length ≤ sizeLine) : IxA X (.str z) (.int i) μ (.str ⟨#[c]⟩) :=
  ⟨_, ix_str, fun ad H vx vy Q m rx ry f => ⟨z, i, c, rx.str_inv, ry.int_inv, hz, h, f [] _ H Stp.refl (by rwa [AD.append_nil]) (Rp.str' _)⟩⟩
def rwI (X : Cx) : R2 := fun x y H Q => ∀ (value slice : Expr) pins s σ v u, Inv X pins σ H s → RelV x v → RelV y u → subscripted slice false v u = operate [v, u] (getItem v u) → wpAny (model X.prog X.w) X.A (PyProof.Rows.subscriptTail value slice v u) (EP X pins σ Q) X.xe s
theorem ix_w : IxR X (rwI X) := fun value slice pins s σ H x y v u Q I rx ry h hs => h value slice pins s σ v u I rx ry hs
theorem WE.ix {Qa : PV → Mem → Prop} (h : WE X a ρ μ fun x μ1 => WE X b ρ μ1 fun y μ2 => ∃ z, IxA X x y μ2 z ∧ Qa z μ2) (hs : PlainIx b := by exact fun _ _ => rfl) : WE X (.Subscript a b pos) ρ μ Qa := fun ad σ H Q R f =>
  wE.of (pe_ix ix_w (pe_w a) (pe_w b) hs) (h ad σ H _ R fun ad1 v H1 x μ1 s1 m1 r1 q1 => q1 (ad ++ ad1) σ H1 _ (R.mono s1 m1) fun ad2 u H2 y μ2 s2 m2 r2 q2 => by
    obtain ⟨z, hz, qz⟩ := q2
    obtain ⟨rr, ho, hr⟩ := hz
    exact fun value slice pins s σ' v' u' I r1' r2' hsub => ho value slice pins s σ' H2 v u v' u' Q I r1' r2' (hr (ad ++ ad1 ++ ad2) H2 v u Q m2 (r1.mono s2) r2 fun ad3 w' H3 s3 m3 r3 =>
      f (ad1 ++ (ad2 ++ ad3)) w' H3 z μ2 (s1.trans (s2.trans s3)) (by rw [← AD.append_assoc, ← AD.append_assoc]; exact m3) (by rw [← AD.append_assoc, ← AD.append_assoc]; exact r3) qz) hsub)
theorem boot_len : bootBuiltins "len" = some (.builtin "len") := by decide +kernel
theorem boot_abs : bootBuiltins "abs" = some (.builtin "abs") := by decide +kernel
theorem boot_max : bootBuiltins "max" = some (.builtin "max") := by decide +kernel
theorem boot_sum : bootBuiltins "sum" = some (.builtin "sum") := by decide +kernel
theorem boot_int : bootBuiltins "int" = some (.type "int") := by decide +kernel
theorem boot_str : bootBuiltins "str" = some (.type "str") := by decide +kernel
theorem boot_tuple : bootBuiltins "tuple" = some (.type "tuple") := by decide +kernel
theorem boot_bool : bootBuiltins "bool" = some (.type "bool") := by decide +kernel
theorem boot_isinstance : bootBuiltins "isinstance" = some (.builtin "isinstance") := by decide +kernel
/-- o[i] = value, o a list object; the value's whole numbers get letters -/
theorem DSs.setG {n : Nat} {i : Int} {j : Nat} {xs : List PV} {sp : Pos} (hv : DE X e ρ μ p μ1) (ho : DE X a ρ μ1 (.obj n) μ1) (hi : DE X b ρ μ1 (.int i) μ2) (hm : μ2[n]? = some (.lst xs)) (hj : ixN xs.length i = some j)
    (hn : gen p fun p' => DSs X sts ρ (μ2.set n (.lst (xs.set j p'))) D)
    (ha : ∀ v, assign (.Subscript a b sp) X.env v = (do
      let ov ← holding [v] (eval a X.env)
      let iv ← holding [v, ov] (eval b X.env)
      standAt sp
      holding [v, ov, iv] (setItem ov iv v)
      release [v, ov, iv] []) := by intro _; rfl)
    (hs : swapsWithSole [.Subscript a b sp] e pos.line X.env = pure false := by rfl) (hw : swappedStores [.Subscript a b sp] e X.env = pure none := by rfl) (h1 : (assignEach [.Subscript a b sp] X.env).map (·.2) = [assign (.Subscript a b sp) X.env] := by rfl) :
    DSs X (.Assign [.Subscript a b sp] e pos :: sts) ρ μ D :=
  DSs.cons (DS.setI hv ho hi hm hj (gen_out p (fun p' => DSs X sts ρ (μ2.set n (.lst (xs.set j p'))) D) hn) ha hs hw h1)
theorem DE.cast (h : DE X e ρ μ p μ') (e' : p = q) : DE X e ρ μ q μ' := e' ▸ h
end
/-! ### the cells that a law draws from: laws 1 to 8, 29 to 32 -/
structure Deck where
  cells : List Int
  begun : Int
  left : Int
  mixed : Int
  total : Int
def deckMO (d : Deck) : MO := .lst [.lst (d.cells.map PV.int), .int d.begun, .int d.left, .int d.mixed, .int d.total]
structure DkOk (d : Deck) (n : Int) : Prop where
  len : d.cells.length ≤ 63
  b0 : 0 ≤ d.begun
  b1 : d.begun ≤ 63
  m0 : 0 ≤ d.mixed
  m1 : d.mixed ≤ n
theorem DkOk.init {ns : List Int} {n : Int} (h : ns.length ≤ 63) (hn : 0 ≤ n := by decide) : DkOk ⟨ns, 0, 0, 0, ns.sum⟩ n := ⟨h, Int.le_refl 0, (by decide : (0 : Int) ≤ 63), Int.le_refl 0, hn⟩
theorem DkOk.mono {d : Deck} {n m : Int} (h : DkOk d n) (l : n ≤ m) : DkOk d m := ⟨h.len, h.b0, h.b1, h.m0, Int.le_trans h.m1 l⟩
theorem sIx_none (n d : Nat) : HT.sIx n d none = d := rfl
theorem cut_all {α : Type} {xs : List α} {k : Nat} (h : xs.length ≤ k) : cutP xs none (some (k : Int)) = xs := by
  unfold cutP
  rw [HT.sIx_none, HT.sIx_nat, Nat.sub_zero, List.drop_zero, List.take_of_length_le (by omega)]
theorem atI_map {ns : List Int} {i : Int} (h0 : 0 ≤ i) (h1 : i < ns.length) : ∃ z, ns[i.toNat]? = some z ∧ atI (ns.map PV.int) i = some (.int z) := by
  obtain ⟨k, rfl⟩ := Int.eq_ofNat_of_zero_le h0
  have hk : k < ns.length := by omega
  refine ⟨ns[k], by simp [hk], atI_nat ?_⟩
  simp [hk]
theorem at_ints {ns : List Int} {i lo hi : Int} (h0 : 0 ≤ i) (h1 : i < ns.length) (hb : ∀ n ∈ ns, lo ≤ n ∧ n ≤ hi) : ∃ z, atI (ns.map PV.int) i = some (.int z) ∧ lo ≤ z ∧ z ≤ hi := by
  obtain ⟨z, hz, e⟩ := atI_map h0 h1
  exact ⟨z, e, hb z (List.mem_of_getElem? hz)⟩
/-! ### headings and turns -/
def hdC (h : Fin 4) : Nat := match h with
  | 0 => 101
  | 1 => 110
  | 2 => 119
  | 3 => 115
def hdS (h : Fin 4) : Str := ⟨#[hdC h]⟩
def tnC (t : Bool) : Nat := if t then 114 else 108
/-- true: to the right -/
def tnS (t : Bool) : Str := ⟨#[tnC t]⟩
theorem hd_at {i : Int} (h0 : 0 ≤ i) (h1 : i < 4) : ∃ h : Fin 4, atI ("enws" : Str).cps.toList i = some (hdC h) ∧ (h.val : Int) = i := by
  have : i = 0 ∨ i = 1 ∨ i = 2 ∨ i = 3 := by omega
  rcases this with e | e | e | e <;> subst e
  · exact ⟨0, by decide +kernel, rfl⟩
  · exact ⟨1, by decide +kernel, rfl⟩
  · exact ⟨2, by decide +kernel, rfl⟩
  · exact ⟨3, by decide +kernel, rfl⟩
theorem tn_at {i : Int} (h0 : 0 ≤ i) (h1 : i < 2) : ∃ t : Bool, atI ("lr" : Str).cps.toList i = some (tnC t) := by
  have : i = 0 ∨ i = 1 := by omega
  rcases this with e | e <;> subst e
  · exact ⟨false, by decide +kernel⟩
  · exact ⟨true, by decide +kernel⟩
/-- a spiral -/
def spP (s : Int) (h : Fin 4) (t : Bool) : PV := .tup [.int s, .str (hdS h), .str (tnS t)]
end L3

namespace L3
open PySem PySem.Spec L2 TL
section
variable {X : Cx} {P : Program} {w : World} {K : PySem.W.Frag} {mg : Str → Option Value} {base : Heap} {N : List Str} {sc scope : Scope} {k j : Nat} {x : Str} {A : ASp} {ρ ρ' : Env} {μ μ1 μ2 μ' : Mem} {p q r : PV} {e a b tg : Expr} {es : List Expr} {pos cp : Pos} {D : AEnds} {st : Stmt} {sts : List Stmt}
/-! ### a comprehension that leaves the store as it is -/
theorem DE.comp {elt iter : Expr} {ifs : List Expr} {own : List (Str × Nat)} {is : List Nat} {ff : PV → Option (List PV)} {xs : List PV} {M : Mem → Prop} (cx : CxF X P w K mg base N sc k)
    (hi : DI X tg iter ρ μ xs M μ1) (ok : blkC N sc scope own = true) (tgt : Tgt P w K mg base N scope k tg is ff) (his : ∀ i ∈ is, i ∈ own.map (·.2)) (f : PV → Option PV) (hM : M μ1) (hl : xs.length ≤ sizeLine)
    (turn : ∀ p, p ∈ xs → ∃ qs, ff p = some qs ∧
      ((f p = none ∧ ∀ X', CxD X' P w K mg base N scope k → WTs X' ifs (setE (wipeE ρ (own.map (·.2))) is qs) μ1 fun b m => b = false ∧ m = μ1) ∨
       (∃ y, f p = some y ∧ (∀ X', CxD X' P w K mg base N scope k → WTs X' ifs (setE (wipeE ρ (own.map (·.2))) is qs) μ1 fun b m => b = true ∧ m = μ1) ∧ ∀ X', CxD X' P w K mg base N scope k → DE X' elt (setE (wipeE ρ (own.map (·.2))) is qs) μ1 y μ1)))
    (hs : ∀ x, foldedSetIterable iter X.env x = pure x := by intro _; rfl) : DE X (.ListComp elt [⟨tg, iter, ifs, 0⟩] scope pos) ρ μ (.lst (xs.filterMap f)) μ1 := by
  refine WE.de (WE.comp cx hi ok tgt his (fun i ys m => m = μ1 ∧ ys = (xs.take i).filterMap f) ⟨rfl, rfl⟩ (fun _ _ _ h => by rw [h.1]; exact hM) ?_ ?_ hs)
  · rintro i p ys m hp ⟨rfl, rfl⟩
    have hi : i < xs.length := (List.getElem?_eq_some_iff.mp hp).1
    have ht : xs.take (i + 1) = xs.take i ++ [p] := by rw [List.take_succ, hp]; rfl
    have hlen : ((xs.take i).filterMap f).length < sizeLine := by
      have h1 := List.length_filterMap_le f (xs.take i)
      rw [List.length_take] at h1
      omega
    obtain ⟨qs, hq, h⟩ := turn p (List.mem_of_getElem? hp)
    refine ⟨qs, hq, fun X' cx' => ?_⟩
    rcases h with ⟨hf, h1⟩ | ⟨y, hf, h1, h2⟩
    · intro ad σ H Q R hQ
      refine h1 X' cx' ad σ H Q R fun ad2 b H' μ' s mm hb => hQ ad2 b H' μ' s mm ?_
      rw [hb.1, hb.2]
      show if false = true then _ else _
      rw [if_neg (by decide)]
      exact ⟨rfl, by rw [ht, List.filterMap_append]; simp [hf]⟩
    · intro ad σ H Q R hQ
      refine h1 X' cx' ad σ H Q R fun ad2 b H' μ' s mm hb => hQ ad2 b H' μ' s mm ?_
      rw [hb.1, hb.2]
      show if true = true then _ else _
      rw [if_pos rfl]
      intro X2 cx2
      exact WE.of (h2 X2 cx2) ⟨hlen, rfl, by rw [ht, List.filterMap_append]; simp [hf]⟩
  · rintro ys m ⟨rfl, rfl⟩
    exact ⟨by rw [List.take_length], rfl⟩
/-! ### texts -/
def signs (l : List Nat) : List PV := l.map fun c => .str ⟨#[c]⟩
theorem DI.str {z : Str} (h : DE X e ρ μ (.str z) μ1) : DI X tg e ρ μ (signs (tl z)) (fun _ => True) μ1 :=
  ⟨_, pi_str (pe_w e), fun ad σ H Q R hQ => h ad σ H _ R fun ad2 v H' s m r => by
    refine ⟨z, r.str_inv, hQ ad2 _ H' s m fun ad' H1 μ1 kp mm _ => ?_⟩
    have hl : (signs (tl z)).length = z.cps.size := by simp [signs, tl]
    refine ⟨fun i hi => by rw [hl] at hi; exact hi, by rw [hl]; exact Nat.le_refl _, fun i p x H2 e1 y => ?_⟩
    obtain ⟨e2, c, hc, e3⟩ := y
    subst e2
    refine ⟨Stp.refl, mm, ?_, fun _ _ z => z⟩
    have : p = .str ⟨#[c]⟩ := by
      unfold signs at e1
      rw [List.getElem?_map] at e1
      have h2 : (tl z)[i]? = some c := by unfold tl; rw [Array.getElem?_toList]; exact hc
      rw [h2] at e1
      exact (Option.some.inj e1).symm
    subst this
    rw [e3]
    exact Rp.str' _⟩
theorem oa_notInC {c : Nat} {y : Str} : OpA X (compareOp .NotIn) (.str ⟨#[c]⟩) (.str y) μ (.bl (!decide (c ∈ tl y))) :=
  ⟨_, op_notIn_sign, fun ad H vx vy Q m rx ry f => ⟨c, y, rx.str_inv, ry.str_inv, f [] _ H Stp.refl (by rwa [AD.append_nil]) (Rp.bl' _)⟩⟩
end
/-! ### slices of texts -/
theorem tl_cut1 {z : Str} : tl (cutS z none (some 1)) = (tl z).take 1 := by
  unfold cutS tl
  rw [HT.sIx_none]
  have : HT.sIx z.length z.length (some 1) = min 1 z.length := HT.sIx_nat z.length z.length 1
  rw [this, List.drop_zero, Nat.sub_zero]
  rcases Nat.le_total 1 z.length with h | h
  · rw [Nat.min_eq_left h]
  · rw [Nat.min_eq_right h, List.take_of_length_le (by show z.cps.toList.length ≤ _; simp [Str.length]), List.take_of_length_le (by show z.cps.toList.length ≤ _; simpa [Str.length] using h)]
theorem tl_cutFrom {z : Str} {n : Nat} : tl (cutS z (some (n : Int)) none) = (tl z).drop n := by
  unfold cutS tl
  rw [HT.sIx_none, HT.sIx_nat]
  have hl : z.cps.toList.length = z.length := by simp [Str.length]
  show (((z.cps.toList.drop (min n z.length)).take (z.length - min n z.length)).toArray).toList = _
  rw [List.take_of_length_le (by rw [List.length_drop, hl]; exact Nat.le_refl _)]
  rcases Nat.le_total n z.length with h | h
  · rw [Nat.min_eq_left h]
  · rw [Nat.min_eq_right h, List.drop_of_length_le (by omega), List.drop_of_length_le (by omega)]
/-! ### numbers as texts -/
abbrev nS (i : Int) : Str := Str.ofString (toString i)
def numT (i : Int) : List Nat := if i < 0 then 45 :: numL i.natAbs else numL i.natAbs
theorem tl_nS (i : Int) : tl (nS i) = numT i := by
  unfold numT
  by_cases h : i < 0
  · rw [if_pos h]
    obtain ⟨n, rfl⟩ : ∃ n : Nat, i = -((n : Nat) : Int) := ⟨i.natAbs, by omega⟩
    have hn : n ≠ 0 := by omega
    obtain ⟨m, rfl⟩ : ∃ m, n = m + 1 := ⟨n - 1, by omega⟩
    have e1 : (-(((m + 1 : Nat)) : Int)) = Int.negSucc m := rfl
    have e2 : toString (Int.negSucc m) = "-" ++ toString (m + 1) := rfl
    unfold nS tl
    rw [e1, e2, PyProof.Rows.signs_ofString, String.toList_append, List.map_append]
    have e3 := tl_num (m + 1)
    unfold tl at e3
    rw [PyProof.Rows.signs_ofString] at e3
    have e4 : toString (((m + 1 : Nat)) : Int) = toString (m + 1) := rfl
    rw [e4] at e3
    rw [e3]
    rfl
  · rw [if_neg h]
    obtain ⟨n, rfl⟩ := Int.eq_ofNat_of_zero_le (by omega : 0 ≤ i)
    exact tl_num n
theorem numT_len {i : Int} {k : Nat} (hk : 0 < k) (h : i.natAbs < 10 ^ k) : (numT i).length ≤ k + 1 := by
  unfold numT
  have := numL_len hk h
  split
  · simp; omega
  · omega
theorem nS_len {i : Int} {k : Nat} (hk : 0 < k) (h : i.natAbs < 10 ^ k) : (nS i).length ≤ k + 1 := by
  have : (nS i).length = (tl (nS i)).length := by simp [tl, Str.length]
  rw [this, tl_nS]
  exact numT_len hk h
/-! ### words that write numbers -/
def figs : List Nat := [48, 49, 50, 51, 52, 53, 54, 55, 56, 57]
theorem mem_figs {c : Nat} : c ∈ figs ↔ 48 ≤ c ∧ c ≤ 57 := by
  simp only [figs, List.mem_cons, List.not_mem_nil, or_false]
  omega
def bareL (l : List Nat) : List Nat := if l.take 1 = [45] then l.drop 1 else l
def isNumL (l : List Nat) : Bool := !(bareL l).isEmpty && (bareL l).all (fun c => decide (c ∈ figs)) && (decide ((bareL l).head? ≠ some 48) || decide (l = [48]))
def notFig : PV → Option PV
  | .str s => if (tl s).all (fun c => decide (c ∈ figs)) = true then none else some (.str s)
  | _ => none
theorem eqv_nil {ds : List PyData} : PyData.eqv (.list ds) (.list []) = ds.isEmpty := by
  cases ds <;> simp [PyData.eqv, PyData.eqvAll]
theorem toDL_empty {ps : List PV} : (toDL ps).isEmpty = ps.isEmpty := by
  cases ps <;> simp [toDL]
theorem okDL_strs : ∀ {l : List PV}, (∀ p ∈ l, ∃ s, p = .str s) → okDL l = true
  | [], _ => by unfold okDL; rfl
  | p :: l, h => by
    obtain ⟨s, e⟩ := h p List.mem_cons_self
    unfold okDL
    rw [e, okDL_strs fun q hq => h q (List.mem_cons_of_mem _ hq)]
    rfl
theorem shaped_strs {l : List PV} (h : ∀ p ∈ l, ∃ s, p = .str s ∧ PyData.strOk s = true) : SeqAt.shaped (.list (toDL l)) = true := by
  have h1 : ∀ {l : List PV}, (∀ p ∈ l, ∃ s, p = .str s ∧ PyData.strOk s = true) → PyData.canLayAll0 (toDL l) = true ∧ PyData.depthAll (toDL l) = 0 := by
    intro l
    induction l with
    | nil => intro _; exact ⟨by unfold toDL PyData.canLayAll0; rfl, by unfold toDL PyData.depthAll; rfl⟩
    | cons p l ih =>
      intro h
      obtain ⟨s, e, hs⟩ := h p List.mem_cons_self
      obtain ⟨i1, i2⟩ := ih fun q hq => h q (List.mem_cons_of_mem _ hq)
      subst e
      unfold toDL toD PyData.canLayAll0 PyData.depthAll PyData.canLay0 PyData.depth
      rw [i1, i2, hs]
      exact ⟨rfl, rfl⟩
  obtain ⟨i1, i2⟩ := h1 h
  unfold SeqAt.shaped PyData.canLay0 PyData.depth
  rw [i1, i2]
  rfl
end L3

namespace L3
open PySem PySem.Spec L2 TL
theorem DT.cast {X : Cx} {e : Expr} {ρ : Env} {μ μ' : Mem} {k k' : Bool} (h : DT X e ρ μ k μ') (e' : k = k') : DT X e ρ μ k' μ' := e' ▸ h
theorem small900 {z : Str} (h : z.length ≤ 900) : z.length ≤ sizeLine := le_line (by omega)
theorem tl_bare {z : Str} : tl (cutS z (some (if decide (cutS z none (some 1) = "-") = true then 1 else 0)) none) = bareL (tl z) := by
  unfold bareL
  by_cases h : (tl z).take 1 = [45]
  · have h1 : cutS z none (some 1) = "-" := ext_tl (tl_cut1.trans h)
    rw [decide_eq_true h1, if_pos rfl, if_pos h]
    exact tl_cutFrom (n := 1)
  · have h1 : ¬ cutS z none (some 1) = "-" := fun e => h (by rw [← tl_cut1, e]; rfl)
    rw [decide_eq_false h1, if_neg (by decide), if_neg h]
    exact tl_cutFrom (n := 0)
theorem bareL_sub {l : List Nat} {c : Nat} (h : c ∈ bareL l) : c ∈ l := by
  unfold bareL at h
  split at h
  · exact List.mem_of_mem_drop h
  · exact h
theorem strOk_mem {z : Str} (h : PyData.strOk z = true) {c : Nat} (hc : c ∈ tl z) : c < 0x110000 := by
  unfold PyData.strOk at h
  rw [Array.all_eq_true'] at h
  exact of_decide_eq_true (h c (Array.mem_toList_iff.mp hc))
theorem strOk_one {c : Nat} (h : c < 0x110000) : PyData.strOk ⟨#[c]⟩ = true := by
  unfold PyData.strOk
  simp [h]
theorem signs_len {z : Str} (h : z.length ≤ 900) : (signs (tl z)).length ≤ sizeLine := by
  refine le_line ?_
  unfold signs
  rw [List.length_map, ← len_tl]
  omega
theorem mem_signs {l : List Nat} {p : PV} (h : p ∈ signs l) : ∃ c, c ∈ l ∧ p = .str ⟨#[c]⟩ := by
  obtain ⟨c, h1, h2⟩ := List.mem_map.mp h
  exact ⟨c, h1, h2.symm⟩
theorem notFig_in {c : Nat} (h : c ∈ figs) : notFig (.str ⟨#[c]⟩) = none := by
  unfold notFig
  simp [tl, h]
theorem notFig_out {c : Nat} (h : ¬ c ∈ figs) : notFig (.str ⟨#[c]⟩) = some (.str ⟨#[c]⟩) := by
  unfold notFig
  simp [tl, h]
theorem notFig_strs {l : List Nat} : ∀ p ∈ (signs l).filterMap notFig, ∃ s, p = .str s := by
  intro p hp
  obtain ⟨q, hq, e⟩ := List.mem_filterMap.mp hp
  obtain ⟨c, _, rfl⟩ := mem_signs hq
  by_cases hf : c ∈ figs
  · rw [notFig_in hf] at e; cases e
  · rw [notFig_out hf] at e; exact ⟨_, (Option.some.inj e).symm⟩
theorem notFig_ok {l : List Nat} (h : ∀ c ∈ l, c < 0x110000) : ∀ p ∈ (signs l).filterMap notFig, ∃ s, p = .str s ∧ PyData.strOk s = true := by
  intro p hp
  obtain ⟨q, hq, e⟩ := List.mem_filterMap.mp hp
  obtain ⟨c, hc, rfl⟩ := mem_signs hq
  by_cases hf : c ∈ figs
  · rw [notFig_in hf] at e; cases e
  · rw [notFig_out hf] at e; exact ⟨_, (Option.some.inj e).symm, strOk_one (h c hc)⟩
theorem notFig_nil {l : List Nat} : ((signs l).filterMap notFig).isEmpty = l.all (fun c => decide (c ∈ figs)) := by
  induction l with
  | nil => rfl
  | cons c l ih =>
    show ((PV.str ⟨#[c]⟩ :: signs l).filterMap notFig).isEmpty = _
    by_cases hf : c ∈ figs
    · rw [List.filterMap_cons_none (notFig_in hf), ih, List.all_cons, decide_eq_true hf]
      rfl
    · rw [List.filterMap_cons_some (notFig_out hf), List.all_cons, decide_eq_false hf]
      rfl
theorem eq_empty {z : Str} : (z = "") ↔ tl z = [] := ⟨fun e => by rw [e]; rfl, fun e => ext_tl e⟩
theorem isNum_no {z bare : Str} (tb : tl bare = bareL (tl z)) (h : (decide (bare = "") || !PyData.eqv (toD (vw μ (.lst ((signs (tl bare)).filterMap notFig)))) (toD (vw μ (.lst [])))) = true) : isNumL (tl z) = false := by
  have e : PyData.eqv (toD (vw μ (.lst ((signs (tl bare)).filterMap notFig)))) (toD (vw μ (.lst []))) = (tl bare).all (fun c => decide (c ∈ figs)) := by
    show PyData.eqv (toD (.lst _)) (toD (.lst [])) = _
    unfold toD
    rw [show toDL [] = [] from rfl, eqv_nil, toDL_empty, notFig_nil]
  rw [e] at h
  unfold isNumL
  rw [← tb]
  rw [Bool.or_eq_true] at h
  rcases h with h | h
  · rw [eq_empty.mp (of_decide_eq_true h)]
    rfl
  · rw [Bool.not_eq_true'] at h
    rw [h]
    simp
theorem isNum_bare {z bare : Str} (tb : tl bare = bareL (tl z)) (h : (decide (bare = "") || !PyData.eqv (toD (vw μ (.lst ((signs (tl bare)).filterMap notFig)))) (toD (vw μ (.lst [])))) = false) :
    ∃ c, atI bare.cps.toList 0 = some c ∧ ((!decide ((⟨#[c]⟩ : Str) = "0")) || decide (z = "0")) = isNumL (tl z) := by
  have e : PyData.eqv (toD (vw μ (.lst ((signs (tl bare)).filterMap notFig)))) (toD (vw μ (.lst []))) = (tl bare).all (fun c => decide (c ∈ figs)) := by
    show PyData.eqv (toD (.lst _)) (toD (.lst [])) = _
    unfold toD
    rw [show toDL [] = [] from rfl, eqv_nil, toDL_empty, notFig_nil]
  rw [e, Bool.or_eq_false_iff] at h
  obtain ⟨h1, h2⟩ := h
  rw [Bool.not_eq_false'] at h2
  have hne : ¬ tl bare = [] := fun q => (of_decide_eq_false h1) (eq_empty.mpr q)
  cases q : tl bare with
  | nil => exact absurd q hne
  | cons c l =>
    refine ⟨c, ?_, ?_⟩
    · show atI (tl bare) 0 = some c
      rw [q]
      exact atI_nat (j := 0) rfl
    · have e0 : ((⟨#[c]⟩ : Str) = "0") ↔ c = 48 := by
        constructor
        · intro e
          have : tl (⟨#[c]⟩ : Str) = tl "0" := by rw [e]
          have h48 : tl ("0" : Str) = [48] := by decide +kernel
          rw [h48] at this
          simpa [tl] using this
        · intro e
          subst e
          exact ext_tl (by decide +kernel)
      have ez : (z = "0") ↔ tl z = [48] := by
        have h48 : tl ("0" : Str) = [48] := by decide +kernel
        exact ⟨fun e => by rw [e]; exact h48, fun e => ext_tl (e.trans h48.symm)⟩
      unfold isNumL
      rw [← tb, q]
      rw [q] at h2
      rw [h2]
      simp only [e0, ez, List.isEmpty_cons, Bool.not_false, Bool.true_and, List.head?_cons, ne_eq, Option.some.injEq, decide_not]
theorem B.log {i : Int} (h : B 100 i) : i.natAbs.log2 < 1920 := PySem.Flt.log2_lt_of (by decide) (B.le h (by decide : 100 ≤ 1920))
theorem B.ten' {i : Int} (h : B 100 i) : i.natAbs < 10 ^ 31 := Nat.lt_of_lt_of_le h (by decide)
theorem nS_33 {i : Int} (h : B 100 i) : (nS i).length ≤ 32 := nS_len (k := 31) (by decide) h.ten'
theorem nS_ok {i : Int} : PyData.strOk (nS i) = true := by
  unfold PyData.strOk
  rw [Array.all_eq_true']
  intro c hc
  have hm : c ∈ tl (nS i) := Array.mem_toList_iff.mpr hc
  rw [tl_nS] at hm
  refine decide_eq_true ?_
  unfold numT at hm
  split at hm
  · rcases List.mem_cons.mp hm with e | e
    · omega
    · have := numL_digits _ c e; omega
  · have := numL_digits _ c hm; omega
/-- a spiral, written -/
def shownS (s : Int) (h : Fin 4) (t : Bool) : Str := Txt.join " " [nS s, hdS h, tnS t]
theorem hd_len {h : Fin 4} : (hdS h).length = 1 := rfl
theorem tn_len {t : Bool} : (tnS t).length = 1 := rfl
theorem shown_line {s : Int} {h : Fin 4} {t : Bool} (bs : B 100 s) : (([nS s, hdS h, tnS t] : List Str).map (·.length)).sum + ([nS s, hdS h, tnS t] : List Str).length * (" " : Str).length ≤ 16777216 := by
  have h1 := nS_33 bs
  have h2 : (" " : Str).length = 1 := by decide +kernel
  simp only [List.map_cons, List.map_nil, List.sum_cons, List.sum_nil, List.length_cons, List.length_nil, hd_len, tn_len, h2]
  omega
theorem tl_shown {s : Int} {h : Fin 4} {t : Bool} : tl (shownS s h t) = numT s ++ [32] ++ ([hdC h] ++ [32] ++ [tnC t]) := by
  unfold shownS
  rw [join_eq, tl_join]
  have h2 : tl (" " : Str) = [32] := by decide +kernel
  rw [h2]
  show joinL [32] [tl (nS s), tl (hdS h), tl (tnS t)] = _
  rw [tl_nS]
  unfold joinL joinL joinL
  simp [hdS, tnS, tl]
theorem hd_in {h : Fin 4} : (!(Builtin.Str.occurrences ("enws" : Str) (hdS h) 0 ("enws" : Str).length 1).isEmpty) = true := by revert h; decide +kernel
theorem tn_in {t : Bool} : (!(Builtin.Str.occurrences ("lr" : Str) (tnS t) 0 ("lr" : Str).length 1).isEmpty) = true := by revert t; decide +kernel
theorem sp_shaped {μ : Mem} {s : Int} {h : Fin 4} {t : Bool} : SeqAt.shaped (toD (vw μ (spP s h t))) = true := by
  show SeqAt.shaped (.tuple [.int s, .str (hdS h), .str (tnS t)]) = true
  unfold SeqAt.shaped
  have h1 : PyData.strOk (hdS h) = true := by revert h; decide +kernel
  have h2 : PyData.strOk (tnS t) = true := by revert t; decide +kernel
  simp [PyData.canLay0, PyData.canLayAll0, PyData.depth, PyData.depthAll, h1, h2]
theorem sp_eqv {μ : Mem} {s : Int} {h : Fin 4} {t : Bool} : PyData.eqv (toD (vw μ (spP s h t))) (toD (vw μ (spP s h t))) = true := by
  show PyData.eqv (.tuple [.int s, .str (hdS h), .str (tnS t)]) (.tuple [.int s, .str (hdS h), .str (tnS t)]) = true
  simp [PyData.eqv, PyData.eqvAll]
/-! ### figure by figure -/
end L3

namespace L3
open PySem PySem.Spec L2
/-! ### places and numbers of the plain spiral -/
def nuF (x y : Int) : Int :=
  let r := max ((x.natAbs : Nat) : Int) ((y.natAbs : Nat) : Int)
  if r = 0 then 0 else
  let f := (2 * r - 1) * (2 * r - 1)
  if x = r ∧ 0 - r < y then f + y + r - 1 else if y = r then f + 3 * r - 1 - x else if x = 0 - r then f + 5 * r - 1 - y else f + 7 * r - 1 + x
inductive Side (r x y n : Int) : Prop
  | zero (a : r = 0) (b : x = 0) (c : y = 0) (d : n = 0)
  | e (p : 1 ≤ r) (a : x = r) (b : -r < y) (c : y ≤ r) (d : n = (2 * r - 1) * (2 * r - 1) + y + r - 1)
  | n (p : 1 ≤ r) (a : y = r) (b : -r ≤ x) (c : x < r) (d : n = (2 * r - 1) * (2 * r - 1) + 3 * r - 1 - x)
  | w (p : 1 ≤ r) (a : x = -r) (b : -r ≤ y) (c : y < r) (d : n = (2 * r - 1) * (2 * r - 1) + 5 * r - 1 - y)
  | s (p : 1 ≤ r) (a : y = -r) (b : -r < x) (c : x ≤ r) (d : n = (2 * r - 1) * (2 * r - 1) + 7 * r - 1 + x)
def ringF (x y : Int) : Int := max ((x.natAbs : Nat) : Int) ((y.natAbs : Nat) : Int)
theorem side_of (x y : Int) : Side (ringF x y) x y (nuF x y) := by
  unfold nuF
  generalize hr : max ((x.natAbs : Nat) : Int) ((y.natAbs : Nat) : Int) = r
  have hr2 : ringF x y = r := hr
  rw [hr2]
  dsimp only
  by_cases h0 : r = 0
  · rw [if_pos h0]; exact .zero h0 (by omega) (by omega) rfl
  · rw [if_neg h0]
    by_cases h1 : x = r ∧ 0 - r < y
    · rw [if_pos h1]; exact .e (by omega) h1.1 (by omega) (by omega) rfl
    · rw [if_neg h1]
      by_cases h2 : y = r
      · rw [if_pos h2]; exact .n (by omega) h2 (by omega) (by omega) rfl
      · rw [if_neg h2]
        by_cases h3 : x = 0 - r
        · rw [if_pos h3]; exact .w (by omega) (by omega) (by omega) (by omega) rfl
        · rw [if_neg h3]; exact .s (by omega) (by omega) (by omega) (by omega) rfl
theorem Side.nu {r x y n : Int} (h : Side r x y n) : nuF x y = n ∧ ringF x y = r := by
  have hr : ringF x y = r := by unfold ringF; cases h <;> omega
  refine ⟨?_, hr⟩
  unfold nuF
  have hr2 : max ((x.natAbs : Nat) : Int) ((y.natAbs : Nat) : Int) = r := hr
  rw [hr2]
  dsimp only
  cases h with
  | zero a b c d => rw [if_pos a, d]
  | e p a b c d => rw [if_neg (by omega), if_pos ⟨a, by omega⟩, d]
  | n p a b c d => rw [if_neg (by omega), if_neg (fun z => by omega), if_pos a, d]
  | w p a b c d => rw [if_neg (by omega), if_neg (fun z => by omega), if_neg (by omega), if_pos (by omega), d]
  | s p a b c d => rw [if_neg (by omega), if_neg (fun z => by omega), if_neg (by omega), if_neg (by omega), d]
theorem sq_le {a b : Int} (h0 : 0 ≤ a) (h : a ≤ b) : a * a ≤ b * b := Int.mul_le_mul h h h0 (Int.le_trans h0 h)
theorem sq_next (r : Int) : (2 * r + 1) * (2 * r + 1) = (2 * r - 1) * (2 * r - 1) + 8 * r := by
  have e1 : (2 * r + 1) * (2 * r + 1) = 2 * r * (2 * r) + 4 * r + 1 := by rw [Int.add_mul, Int.mul_add]; omega
  have e2 : (2 * r - 1) * (2 * r - 1) = 2 * r * (2 * r) - 4 * r + 1 := by rw [Int.sub_mul, Int.mul_sub]; omega
  omega
theorem Side.span {r x y n : Int} (h : Side r x y n) (hr : 1 ≤ r) : (2 * r - 1) * (2 * r - 1) ≤ n ∧ n < (2 * r + 1) * (2 * r + 1) := by
  rw [sq_next]
  cases h <;> omega
theorem Side.r0 {r x y n : Int} (h : Side r x y n) : 0 ≤ r := by cases h <;> omega
theorem Side.n0 {r x y n : Int} (h : Side r x y n) : 0 ≤ n := by
  rcases Int.lt_or_le 0 r with z | z
  · have := h.span z
    have := Int.mul_nonneg (show 0 ≤ 2 * r - 1 by omega) (show 0 ≤ 2 * r - 1 by omega)
    omega
  · cases h <;> omega
theorem Side.npos {r x y n : Int} (h : Side r x y n) (hr : 1 ≤ r) : 1 ≤ n := by
  have := h.span hr
  have := Int.mul_le_mul (show 1 ≤ 2 * r - 1 by omega) (show 1 ≤ 2 * r - 1 by omega) (by decide) (by omega)
  omega
theorem Side.ring_eq {r x y n r' x' y' : Int} (h : Side r x y n) (h' : Side r' x' y' n) : r = r' := by
  have p := h.r0
  have p' := h'.r0
  rcases Int.lt_trichotomy r r' with z | z | z
  · exfalso
    have s' := h'.span (by omega)
    by_cases e : r = 0
    · have := h'.npos (by omega)
      cases h <;> omega
    · have s := h.span (by omega)
      have := sq_le (show 0 ≤ 2 * r + 1 by omega) (show 2 * r + 1 ≤ 2 * r' - 1 by omega)
      omega
  · exact z
  · exfalso
    have s := h.span (by omega)
    by_cases e : r' = 0
    · have := h.npos (by omega)
      cases h' <;> omega
    · have s' := h'.span (by omega)
      have := sq_le (show 0 ≤ 2 * r' + 1 by omega) (show 2 * r' + 1 ≤ 2 * r - 1 by omega)
      omega
theorem Side.inj {r x y n r' x' y' : Int} (h : Side r x y n) (h' : Side r' x' y' n) : x = x' ∧ y = y' := by
  have e := h.ring_eq h'
  subst e
  cases h <;> cases h' <;> constructor <;> omega
theorem nuF_inj {x y x' y' : Int} (h : nuF x y = nuF x' y') : x = x' ∧ y = y' := (side_of x y).inj (by rw [h]; exact side_of x' y')
theorem nuF_nonneg (x y : Int) : 0 ≤ nuF x y := (side_of x y).n0
theorem sqrt_ex (n : Nat) : ∃ s : Nat, s * s ≤ n ∧ n < (s + 1) * (s + 1) := by
  induction n with
  | zero => exact ⟨0, by decide, by decide⟩
  | succ n ih =>
    obtain ⟨s, h1, h2⟩ := ih
    by_cases h : (s + 1) * (s + 1) ≤ n + 1
    · refine ⟨s + 1, h, ?_⟩
      have : (s + 1 + 1) * (s + 1 + 1) = (s + 1) * (s + 1) + 2 * (s + 1) + 1 := by rw [Nat.add_mul, Nat.mul_add]; omega
      omega
    · exact ⟨s, by omega, by omega⟩
theorem isq (n : Int) (h : 0 ≤ n) : ∃ s : Int, 0 ≤ s ∧ s * s ≤ n ∧ n < (s + 1) * (s + 1) := by
  obtain ⟨s, h1, h2⟩ := sqrt_ex n.toNat
  refine ⟨s, by omega, ?_, ?_⟩
  · have : ((s * s : Nat) : Int) ≤ n := by omega
    simpa using this
  · have : n < (((s + 1) * (s + 1) : Nat) : Int) := by omega
    simpa using this
theorem nuF_surj (n : Int) (h : 0 ≤ n) : ∃ x y, nuF x y = n := by
  obtain ⟨s, s0, h1, h2⟩ := isq n h
  obtain ⟨r, hr⟩ : ∃ r : Int, r = (s + 1) / 2 := ⟨_, rfl⟩
  by_cases r0 : r = 0
  · have : s = 0 := by omega
    subst this
    exact ⟨0, 0, by rw [show n = 0 by omega]; decide⟩
  · have a : (2 * r - 1) * (2 * r - 1) ≤ s * s := sq_le (by omega) (by omega)
    have b : (s + 1) * (s + 1) ≤ (2 * r + 1) * (2 * r + 1) := sq_le (by omega) (by omega)
    rw [sq_next] at b
    generalize hq : (2 * r - 1) * (2 * r - 1) = q at a b
    by_cases c1 : n < q + 2 * r
    · exact ⟨r, n - q - r + 1, (Side.e (r := r) (by omega) rfl (by omega) (by omega) (by rw [hq]; omega)).nu.1⟩
    · by_cases c2 : n < q + 4 * r
      · exact ⟨q + 3 * r - 1 - n, r, (Side.n (r := r) (by omega) rfl (by omega) (by omega) (by rw [hq]; omega)).nu.1⟩
      · by_cases c3 : n < q + 6 * r
        · exact ⟨-r, q + 5 * r - 1 - n, (Side.w (r := r) (by omega) rfl (by omega) (by omega) (by rw [hq]; omega)).nu.1⟩
        · exact ⟨n - q - 7 * r + 1, -r, (Side.s (r := r) (by omega) rfl (by omega) (by omega) (by rw [hq]; omega)).nu.1⟩
theorem Side.le {r x y n : Int} (h : Side r x y n) : r ≤ n := by
  rcases Int.lt_or_le 0 r with z | z
  · have := (h.span z).1
    have := Int.mul_le_mul (show r ≤ 2 * r - 1 by omega) (show 1 ≤ 2 * r - 1 by omega) (by decide) (by omega)
    omega
  · have := h.n0; omega
theorem B.ring {k : Nat} {x y : Int} (h : B k (nuF x y)) : B k x ∧ B k y := by
  have h1 := (side_of x y).le
  have h2 : ringF x y = max ((x.natAbs : Nat) : Int) ((y.natAbs : Nat) : Int) := rfl
  unfold B at *
  omega

/-! ### turned and mirrored -/
def lefP (p : Int × Int) : Int × Int := (0 - p.2, p.1)
def lefN : Nat → Int × Int → Int × Int
  | 0, p => p
  | n + 1, p => lefP (lefN n p)
def mirP (t : Bool) (p : Int × Int) : Int × Int := (p.1, if t = true then 0 - p.2 else p.2)
/-- where the plain place stands -/
def plW (h : Fin 4) (t : Bool) (p : Int × Int) : Int × Int := lefN h.val (mirP t p)
/-- the plain place of what stands there -/
def unW (h : Fin 4) (t : Bool) (p : Int × Int) : Int × Int := mirP t (lefN ((4 - h.val) % 4) p)
theorem lef4 (p : Int × Int) : lefP (lefP (lefP (lefP p))) = p := by
  obtain ⟨x, y⟩ := p
  simp only [lefP, Prod.mk.injEq]
  omega
theorem mir2 (t : Bool) (p : Int × Int) : mirP t (mirP t p) = p := by
  obtain ⟨x, y⟩ := p
  cases t <;> simp [mirP]
theorem pl_un (h : Fin 4) (t : Bool) (p : Int × Int) : plW h t (unW h t p) = p := by
  unfold plW unW
  rw [mir2]
  match h with
  | 0 => rfl
  | 1 => exact lef4 p
  | 2 => exact lef4 p
  | 3 => exact lef4 p
theorem un_pl (h : Fin 4) (t : Bool) (p : Int × Int) : unW h t (plW h t p) = p := by
  unfold plW unW
  have : lefN ((4 - h.val) % 4) (lefN h.val (mirP t p)) = mirP t p := by
    match h with
    | 0 => rfl
    | 1 => exact lef4 _
    | 2 => exact lef4 _
    | 3 => exact lef4 _
  rw [this, mir2]
/-- the number, from 0 on, that stands at p -/
def nuW (h : Fin 4) (t : Bool) (p : Int × Int) : Int := nuF (unW h t p).1 (unW h t p).2
theorem nuW_pl (h : Fin 4) (t : Bool) (p : Int × Int) : nuW h t (plW h t p) = nuF p.1 p.2 := by unfold nuW; rw [un_pl]
theorem nuW_nonneg (h : Fin 4) (t : Bool) (p : Int × Int) : 0 ≤ nuW h t p := nuF_nonneg _ _
theorem nuW_inj {h : Fin 4} {t : Bool} {p q : Int × Int} (e : nuW h t p = nuW h t q) : p = q := by
  obtain ⟨e1, e2⟩ := nuF_inj e
  have : unW h t p = unW h t q := Prod.ext e1 e2
  rw [← pl_un h t p, this, pl_un]
theorem nuW_surj (h : Fin 4) (t : Bool) (n : Int) (hn : 0 ≤ n) : ∃ p, nuW h t p = n := by
  obtain ⟨x, y, e⟩ := nuF_surj n hn
  exact ⟨plW h t (x, y), by rw [nuW_pl]; exact e⟩
theorem nuW_left (h : Fin 4) (t : Bool) (p : Int × Int) : nuW (h + 1) t (lefP p) = nuW h t p := by
  have : unW (h + 1) t (lefP p) = unW h t p := by
    match h with
    | 0 => show mirP t (lefP (lefP (lefP (lefP p)))) = mirP t p; rw [lef4]
    | 1 => rfl
    | 2 => rfl
    | 3 => rfl
  unfold nuW
  rw [this]
theorem t43 : (4 - ((3 : Fin 4) : Nat)) % 4 = 1 := rfl
def ptP (p : Int × Int) : PV := .tup [.int p.1, .int p.2]
theorem B.unW {k : Nat} {h : Fin 4} {t : Bool} {p : Int × Int} : (B k (unW h t p).1 ∧ B k (unW h t p).2) ↔ (B k p.1 ∧ B k p.2) := by
  obtain ⟨x, y⟩ := p
  unfold B
  match h, t with
  | 0, false => simp [L3.unW, mirP, lefN, lefP]
  | 0, true => simp [L3.unW, mirP, lefN, lefP]
  | 1, false => simp [L3.unW, mirP, lefN, lefP]; omega
  | 1, true => simp [L3.unW, mirP, lefN, lefP]; omega
  | 2, false => simp [L3.unW, mirP, lefN, lefP]
  | 2, true => simp [L3.unW, mirP, lefN, lefP]
  | 3, false => simp [t43, L3.unW, mirP, lefN, lefP]; omega
  | 3, true => simp [t43, L3.unW, mirP, lefN, lefP]; omega
theorem B.nuW {k : Nat} {h : Fin 4} {t : Bool} {p : Int × Int} (b : B k (nuW h t p)) : B k p.1 ∧ B k p.2 := B.unW.mp (B.ring b)
/-! ### for the defs -/
end L3

namespace L3
open PySem PySem.Spec L2
section
variable {X : Cx} {ad : AD} {ad2 : List Addr} {σ : L2.St} {H H' : Hp} {ρ ρ' : Env} {μ μ1 μ2 μ' : Mem} {p q r : PV} {e e2 a b c tg : Expr} {es : List Expr} {pos cp : Pos} {k : Nat} {D : AEnds} {Dc : Ends} {st : Stmt} {sts : List Stmt}
  {P : Program} {w : World} {K : PySem.W.Frag} {mg : Str → Option Value} {base : Heap} {N : List Str} {sc : Scope} {x : Str}
/-! ### zip, enumerate -/
def zipP (xs ys : List PV) : List PV := List.zipWith (fun p q => .tup [p, q]) xs ys
theorem zipP_get {xs ys : List PV} {i : Nat} {r : PV} (h : (zipP xs ys)[i]? = some r) : ∃ p q, xs[i]? = some p ∧ ys[i]? = some q ∧ r = .tup [p, q] := by
  unfold zipP at h
  rw [List.getElem?_zipWith] at h
  cases hx : xs[i]? with
  | none => rw [hx] at h; cases h
  | some u =>
    cases hy : ys[i]? with
    | none => rw [hx, hy] at h; cases h
    | some v => rw [hx, hy] at h; exact ⟨u, v, rfl, rfl, (Option.some.inj h).symm⟩
theorem Rp.pair {T : Addr} {u v : V} (hT : H T = none) (m : Mst ad K H μ) (r1 : Rp ad K H p u) (r2 : Rp ad K H q v) : Rp ad K (upd H T (.tup [u, v])) (.tup [p, q]) (.ref T) := by
  unfold Rp
  refine ⟨T, [u, v], rfl, .inl ⟨upd_same, m.notIn hT⟩, ?_⟩
  have := RpL.mono (K := K) (Stp.data (o := .tup [u, v]) hT) [p, q] [u, v] (RpL.cons r1 (RpL.cons r2 RpL.nil))
  rwa [AD.append_nil] at this
theorem Keep.fresh {T : Addr} {o : HO} (hT : H T = none) : Keep K ad H ad (upd H T o) := fun p v r => by
  have := Rp.mono (K := K) (Stp.data (o := o) hT) p v r
  rwa [AD.append_nil] at this
theorem WalkD.zip {M : Mem → Prop} {l1 l2 : Addr} {xs ys : List PV}
    (h : ∀ ad' H1 μ1, Keep K ad H ad' H1 → Mst ad' K H1 μ1 → M μ1 → (∃ vs, SqL K H1 l1 vs ∧ RpL ad' K H1 xs vs) ∧ (∃ vs, SqL K H1 l2 vs ∧ RpL ad' K H1 ys vs)) : WalkD K ad H (Itz K l1 l2) (zipP xs ys) M := fun adx H1 μ1 s m hM => by
  obtain ⟨⟨us, h1, r1⟩, ⟨vs, h2, r2⟩⟩ := h adx H1 μ1 s m hM
  have hz : (zipP xs ys).length = min xs.length ys.length := by simp [zipP]
  refine ⟨fun i hi => ?_, ⟨us, vs, h1, h2, by rw [hz, ← r1.length, ← r2.length]; omega⟩, fun i p x H2 e y => ?_⟩
  · rw [hz] at hi
    obtain ⟨u, hu, _⟩ := r1.get (i := i) (List.getElem?_eq_getElem (by omega))
    obtain ⟨v, hv, _⟩ := r2.get (i := i) (List.getElem?_eq_getElem (by omega))
    exact ⟨us, vs, u, v, h1, h2, hu, hv⟩
  · obtain ⟨p1, p2, e1, e2, e3⟩ := zipP_get e
    obtain ⟨T, u, v, hx, hT, hH, hu, hv⟩ := y
    obtain ⟨u', hu', ru⟩ := r1.get e1
    obtain ⟨v', hv', rv⟩ := r2.get e2
    have := hu us h1
    rw [hu'] at this
    cases this
    have := hv vs h2
    rw [hv'] at this
    cases this
    subst hx hH e3
    exact ⟨Stp.data hT, m.data hT, Rp.pair hT m ru rv, Keep.fresh hT⟩
theorem RpL.inv2z {vs : List V} (r : RpL ad K H [p, q] vs) : ∃ u v, vs = [u, v] ∧ Rp ad K H p u ∧ Rp ad K H q v := by
  unfold RpL at r
  obtain ⟨u, t, e1, r1, r2⟩ := r
  obtain ⟨v, e2, r3⟩ := RpL.inv1 r2
  exact ⟨u, v, by rw [e1, e2], r1, r3⟩
theorem DI.zip {elts : List Expr} {kk : Nat} {tpos : Pos} {xs ys : List PV} (cx : CxD X P w K mg base N sc k) (hx : sc.names.lookup ("zip" : Str) = some .globalImplicit) (hm : mg "zip" = none) (h : DA X [e, e2] ρ μ [p, q] μ1) (h1 : asL μ1 p = some xs) (h2 : asL μ1 q = some ys)
    (hs : starEach [e, e2] X.env = (false, eval e X.env) :: starEach [e2] X.env := by rfl) (hpl : (backTo pos (starEach [e2] X.env)).any (·.1) = false := by rfl) :
    DI X (.Tuple elts kk tpos) (.Call (.Name "zip" cp) [e, e2] [] pos) ρ μ (zipP xs ys) (fun m => Keeps p xs m ∧ Keeps q ys m) μ1 :=
  ⟨_, RZ.pi_zipA (cx.gl _ hx) (by rw [cx.emg]; exact hm) (pa_w [e, e2]) hs hpl, fun ad σ H Q R hQ => h ad σ H _ R fun ad2 vs H' s m r => by
    obtain ⟨u, v, ev, ru, rv⟩ := r.inv2z
    obtain ⟨l1, e1, ⟨us, q1⟩, k1⟩ := ru.seq_stays h1 m
    obtain ⟨l2, e2', ⟨ws, q2⟩, k2⟩ := rv.seq_stays h2 m
    refine ⟨l1, l2, us, ws, by rw [ev, e1, e2'], .inl ⟨q1, q2, hQ ad2 _ H' s m (WalkD.zip fun ad' H1 μ1 s m hM => ⟨k1 ad' H1 μ1 s m hM.1, k2 ad' H1 μ1 s m hM.2⟩)⟩⟩⟩
/-! ### len(set(xs)) -/
theorem RpL.tups {ks : List (List Int)} : ∀ {vs : List V}, RpL ad K H (ks.map fun k => PV.tup (k.map PV.int)) vs → ∃ qs : List (Addr × List Int), vs = qs.map (fun p => V.ref p.1) ∧ qs.map (·.2) = ks ∧ ∀ p ∈ qs, SqT K H p.1 (p.2.map V.int) := by
  induction ks with
  | nil => intro vs r; exact ⟨[], by unfold RpL at r; exact r, rfl, fun _ h => nomatch h⟩
  | cons k ks ih =>
    intro vs r
    rw [List.map_cons] at r
    unfold RpL at r
    obtain ⟨v, t, e1, r1, r2⟩ := r
    obtain ⟨qs, e2, e3, e4⟩ := ih r2
    obtain ⟨l, us, e5, h5, r5⟩ := r1.tup_inv
    rw [r5.ints'] at h5
    refine ⟨(l, k) :: qs, by rw [e1, e2, e5]; rfl, by rw [List.map_cons, e3], fun p hp => ?_⟩
    rcases List.mem_cons.mp hp with z | z
    · rw [z]; exact h5
    · exact e4 p z
end
end L3

namespace L3
open PySem PySem.Spec L2
section
variable {X : Cx} {ad : AD} {ad2 : List Addr} {σ : L2.St} {H H' : Hp} {ρ ρ' : Env} {μ μ1 μ2 μ' : Mem} {p q r : PV} {e e2 a b c tg : Expr} {es : List Expr} {pos cp : Pos} {k : Nat} {D : AEnds} {Dc : Ends} {st : Stmt} {sts : List Stmt}
  {P : Program} {w : World} {K : PySem.W.Frag} {mg : Str → Option Value} {base : Heap} {N : List Str} {sc : Scope} {x : Str}
/-! ### open-ended calls of built-ins, items drawn -/
def rwC (X : Cx) (f : Value) : List V → Hp → VK → Prop := fun xs H Q => ∀ (pins : List (Addr × Obj)) (s : Shared) (σ : St) (us : List Value), Inv X pins σ H s → Vals xs us → wpAny (model X.prog X.w) X.A (call f us) (EP X pins σ Q) X.xe s
theorem call_w {f : Value} : CallR X f (rwC X f) := fun pins s σ H xs us Q I r h => h pins s σ us I r
theorem WE.callB {id : String} {Qa : PV → Mem → Prop} (cx : CxD X P w K mg base N sc k) (hx : sc.names.lookup x = some .globalImplicit) (hm : mg x = none) (hv : bootBuiltins x = some (.builtin id)) (h : WA X (e :: es) ρ μ fun ps m => ∃ p, CallA X (.builtin id) ps m p ∧ Qa p m)
    (hn : x ≠ "__name__" := by decide) (hdb : (x == ("__debug__" : Str)) = false := by decide) (he : starEach (e :: es) X.env = (false, eval e X.env) :: starEach es X.env := by rfl) (hpl : (backTo pos (starEach es X.env)).any (·.1) = false := by rfl) :
    WE X (.Call (.Name x cp) (e :: es) [] pos) ρ μ Qa := fun ad σ H Q R f =>
  wE.of (pe_callB call_w (cx.gl x hx) (by rw [cx.emg]; exact hm) hv (pa_w _) hn hdb he hpl) (h ad σ H _ R fun ad1 vs H1 ps μ1 s1 m1 r1 q1 => by
    obtain ⟨p, ⟨rr, ho, hr⟩, qp⟩ := q1
    exact fun pins s σ' us I r2 => ho pins s σ' H1 vs us Q I r2 (hr (ad ++ ad1) H1 vs Q m1 r1 fun ad3 w' H3 s3 m3 r3 =>
      f (ad1 ++ ad3) w' H3 p μ1 (s1.trans s3) (by rw [← AD.append_assoc]; exact m3) (by rw [← AD.append_assoc]; exact r3) qp))
theorem WE.callTy {T : String} {Qa : PV → Mem → Prop} (cx : CxD X P w K mg base N sc k) (hx : sc.names.lookup x = some .globalImplicit) (hm : mg x = none) (hv : bootBuiltins x = some (.type T)) (h : WA X (e :: es) ρ μ fun ps m => ∃ p, CallA X (.type T) ps m p ∧ Qa p m)
    (hn : x ≠ "__name__" := by decide) (hdb : (x == ("__debug__" : Str)) = false := by decide) (he : starEach (e :: es) X.env = (false, eval e X.env) :: starEach es X.env := by rfl) (hpl : (backTo pos (starEach es X.env)).any (·.1) = false := by rfl) :
    WE X (.Call (.Name x cp) (e :: es) [] pos) ρ μ Qa := fun ad σ H Q R f =>
  wE.of (pe_callTy call_w (cx.gl x hx) (by rw [cx.emg]; exact hm) hv (pa_w _) hn hdb he hpl) (h ad σ H _ R fun ad1 vs H1 ps μ1 s1 m1 r1 q1 => by
    obtain ⟨p, ⟨rr, ho, hr⟩, qp⟩ := q1
    exact fun pins s σ' us I r2 => ho pins s σ' H1 vs us Q I r2 (hr (ad ++ ad1) H1 vs Q m1 r1 fun ad3 w' H3 s3 m3 r3 =>
      f (ad1 ++ ad3) w' H3 p μ1 (s1.trans s3) (by rw [← AD.append_assoc]; exact m3) (by rw [← AD.append_assoc]; exact r3) qp))
/-- all are whole numbers from lo to hi -/
def AllI (lo hi : Int) : List PV → Prop
  | [] => True
  | .int n :: t => (lo ≤ n ∧ n ≤ hi) ∧ AllI lo hi t
  | _ => False
def AnyI : List PV → Prop
  | [] => True
  | .int _ :: t => AnyI t
  | _ => False
/-- all are pairs of whole numbers from lo to hi -/
def AllPt (lo hi : Int) : List PV → Prop
  | [] => True
  | .tup [.int n, .int m] :: t => (lo ≤ n ∧ n ≤ hi ∧ lo ≤ m ∧ m ≤ hi) ∧ AllPt lo hi t
  | _ => False
theorem AllI.mem {lo hi : Int} : ∀ {xs : List PV}, AllI lo hi xs → ∀ p ∈ xs, ∃ n, p = .int n ∧ lo ≤ n ∧ n ≤ hi
  | [], _, p, hp => nomatch hp
  | .int n :: t, h, p, hp => by
    rcases List.mem_cons.mp hp with z | z
    · exact ⟨n, z, h.1.1, h.1.2⟩
    · exact AllI.mem (xs := t) h.2 p z
theorem AnyI.mem : ∀ {xs : List PV}, AnyI xs → ∀ p ∈ xs, ∃ n, p = .int n
  | [], _, p, hp => nomatch hp
  | .int n :: t, h, p, hp => by
    rcases List.mem_cons.mp hp with z | z
    · exact ⟨n, z⟩
    · exact AnyI.mem (xs := t) h p z
theorem AllPt.mem {lo hi : Int} : ∀ {xs : List PV}, AllPt lo hi xs → ∀ p ∈ xs, ∃ n m, p = .tup [.int n, .int m] ∧ lo ≤ n ∧ n ≤ hi ∧ lo ≤ m ∧ m ≤ hi
  | [], _, p, hp => nomatch hp
  | .tup [.int n, .int m] :: t, h, p, hp => by
    rcases List.mem_cons.mp hp with z | z
    · exact ⟨n, m, z, h.1⟩
    · exact AllPt.mem (xs := t) h.2 p z
theorem at_mem {xs : List PV} {i : Int} (h0 : 0 ≤ i) (h1 : i < xs.length) : ∃ p, p ∈ xs ∧ atI xs i = some p := by
  obtain ⟨k, rfl⟩ := Int.eq_ofNat_of_zero_le h0
  have hk : k < xs.length := by omega
  exact ⟨xs[k], List.getElem_mem hk, atI_nat (by simp [hk])⟩
theorem ixW {xs : List PV} {i : Int} {Qz : PV → Prop} (hl : asL μ p = some xs) (h0 : 0 ≤ i) (h1 : i < xs.length) (h : ∀ z ∈ xs, Qz z) : ∃ z, IxA X p (.int i) μ z ∧ Qz z := by
  obtain ⟨z, hz, e⟩ := at_mem h0 h1
  exact ⟨z, ia_lst hl e, h z hz⟩
theorem ixWA {xs : List PV} {i : Int} {Qz : PV → Prop} (hl : asL μ p = some xs) (h0 : 0 ≤ i) (h1 : i < xs.length) (ha : AnyI xs) (h : ∀ z, Qz (.int z)) : ∃ z, IxA X p (.int i) μ z ∧ Qz z :=
  ixW hl h0 h1 fun z hz => by
    obtain ⟨n, e⟩ := ha.mem z hz
    rw [e]; exact h n
/-! ### x in a list or tuple of flat items -/
def flatP : PV → Bool
  | .non => true
  | .bl _ => true
  | .int _ => true
  | .str _ => true
  | _ => false
def pvV : PV → V
  | .bl b => .bl b
  | .int i => .int i
  | .str z => .str z
  | _ => .non
theorem pvV_flat {p : PV} (h : flatP p = true) : flatV (pvV p) = true := by cases p <;> first | rfl | cases h
theorem Rp.flat {ad : AD} {H : Hp} {v : V} (h : flatP p = true) (r : Rp ad K H p v) : v = pvV p := by
  cases p with
  | non => exact r.non_inv
  | bl b => exact r.bl_inv
  | int i => exact r.int_inv
  | str z => exact r.str_inv
  | _ => cases h
theorem RpL.flat {ad : AD} {H : Hp} : ∀ {ps : List PV} {vs : List V}, ps.all flatP = true → RpL ad K H ps vs → vs = ps.map pvV
  | [], vs, _, r => by unfold RpL at r; exact r
  | p :: ps, vs, h, r => by
    unfold RpL at r
    obtain ⟨v, t, e, r1, r2⟩ := r
    rw [List.all_cons, Bool.and_eq_true] at h
    rw [e, r1.flat h.1, RpL.flat h.2 r2, List.map_cons]
theorem all_flat {ps : List PV} (h : ps.all flatP = true) : (ps.map pvV).all flatV = true := by
  rw [List.all_eq_true] at h ⊢
  intro v hv
  obtain ⟨p, hp, e⟩ := List.mem_map.mp hv
  rw [← e]
  exact pvV_flat (h p hp)
theorem oa_notInT {xs : List PV} (h : flatP p = true) (hx : xs.all flatP = true) : OpA X (compareOp .NotIn) p (.tup xs) μ (.bl (!inV (pvV p) (xs.map pvV))) :=
  ⟨_, op_notIn_seq, fun ad H vx vy Q m rx ry f => by
    obtain ⟨l, vs, e, hq, r⟩ := ry.tup_inv
    rw [r.flat hx] at hq
    rw [rx.flat h]
    exact ⟨l, _, e, .inr hq, pvV_flat h, all_flat hx, f [] _ H Stp.refl (by rwa [AD.append_nil]) (Rp.bl' _)⟩⟩
/-! ### pairs -/
/-! ### headings and turns, found and turned -/
theorem CxF.setP (cx : CxF X P w K mg base N sc k) (i : Nat) (hN : N[i]? = some x) (hs : stoB sc x = true) {pos pos' : Pos} (h : DE X e ρ μ q μ1) (hn : DSs X sts (ρ.set i (some q)) μ1 D)
    (hsw : swapsWith e (some (.Name x pos')) pos.line X.env = pure false := by rfl) : DSs X (.Assign [.Name x pos'] e pos :: sts) ρ μ D := DSs.cons (cx.set i hN hs h hn hsw)
end
end L3

namespace L3
open PySem PySem.Spec L2 PyProof.Rows
/-! ### max, min of a tuple of ints; of three and more ints -/
section
variable {prog : Program} {w : World} {A : Around} {E : Value → Shared → Prop} {s : Shared} {l : Addr} {its : List Value} {ns : List Int}
end
section
variable {X : Cx} {μ : Mem} {p : PV}
end
end L3

namespace L3
open PySem PySem.Spec L2
/-! ### the four beside, rings, corners -/
/-- 1 where a is less than n -/
def ls (n a : Int) : Int := if a < n then 1 else 0
end L3

namespace L3
open PySem PySem.Spec L2
/-! ### the four beside, in the world -/
/-! ### tuples of ints, truths compared -/
section
variable {X : Cx} {μ : Mem} {ns ms : List Int}
end
end L3

namespace L3
open PySem PySem.Spec L2
/-! ### rings' ends, corners' numbers -/
end L3

namespace L3
open PySem PySem.Spec L2
/-! ### the deck of the laws 9 to 11, 20 to 28 -/
structure DeckB where
  g : Int
  m : Int
  c : Int
structure DbOk (d : DeckB) (n : Int) : Prop where
  g0 : 0 ≤ d.g
  m0 : 0 ≤ d.m
  m1 : d.m ≤ 2000000000
  c0 : 0 ≤ d.c
  c1 : d.c ≤ n
theorem DbOk.mono {d : DeckB} {n m : Int} (h : DbOk d n) (l : n ≤ m) : DbOk d m := ⟨h.g0, h.m0, h.m1, h.c0, Int.le_trans h.c1 l⟩
section
variable {X : Cx} {μ : Mem}
end
end L3

namespace L3
open PySem PySem.Spec L2
section
variable {X : Cx} {ad : AD} {σ : L2.St} {H : Hp} {ρ : Env} {μ μ1 : Mem} {p q r : PV} {e : Expr} {pos cp : Pos} {k : Nat}
  {P : Program} {w : World} {K : PySem.W.Frag} {mg : Str → Option Value} {base : Heap} {N : List Str} {sc : Scope} {x : Str}
/-! ### a dict of the module, texts as keys -/
/-- at the module's name x stands a dict that gives v at the key z -/
def KTab (K : PySem.W.Frag) (w : World) (mg : Str → Option Value) (x z : Str) (v : V) : Prop := ∃ a, mg x = some (.ref a) ∧ KDct K w a z v
theorem KTab.of {K : PySem.W.Frag} {w : World} {mg : Str → Option Value} {x z : Str} {v : V} {a : Addr} {ks : List Str} {u : Value} (h1 : mg x = some (.ref a)) (h2 : He.dicW K a = some (He.keysIn w.params ks)) (h3 : PySem.W.nsIn K a z = some (some u)) (r : RelV v u) : KTab K w mg x z v := by
  obtain ⟨es, n, D⟩ := He.dicW_ok h2
  exact ⟨a, h1, es, n, u, D.at_, D.lit, h3, r⟩
/-! ### tuples cut and joined, a list taken apart -/
theorem DG.lst {tg : List Expr} {ps : List PV} {j : Nat} {ρ' : Env} (hc : X.calm = true) (h : DGs X tg ps ρ μ ρ') (hn : (assignEach tg X.env).length = ps.length := by rfl) (hst : (assignEach tg X.env).findIdx? (·.1) = none := by rfl) : DG X (.Tuple tg j pos) (.lst ps) ρ μ ρ' := by
  obtain ⟨tt, hp, ht⟩ := h
  intro ad σ H v Q R r hQ
  obtain ⟨a, vs, e1, h1, r1⟩ := r.asL_inv (show asL μ (.lst ps) = some ps from rfl) R.m
  exact wG.of (pg_unl (n := ps.length) hc hp hn hst) ⟨a, vs, e1, h1, r1.length.symm, ht ad σ H vs Q R r1 hQ⟩
end
end L3

namespace L3
open PySem PySem.Spec L2
/-! ### one spiral led to another -/
theorem hf4 : ∀ h : Fin 4, h = 0 ∨ h = 1 ∨ h = 2 ∨ h = 3 := by decide
theorem v3 : ((3 : Fin 4) : Nat) = 3 := rfl
section
variable {X : Cx} {ad : AD} {σ : L2.St} {H : Hp} {ρ : Env} {μ μ1 : Mem} {p q r : PV} {a b : Expr} {pos cp : Pos} {k : Nat}
  {P : Program} {w : World} {K : PySem.W.Frag} {mg : Str → Option Value} {base : Heap} {N : List Str} {sc : Scope}
/-! ### list(range(n)) -/
end
section
variable {X : Cx} {ρ : Env} {μ μ1 : Mem} {o e : Expr} {cp : Pos}
/-- o.append(e), e whatever it promises -/
theorem WE.append {n : Nat} {ys : List PV} {apos : Pos} {Qa : PV → Mem → Prop} (ho : DE X o ρ μ (.obj n) μ1) (h1 : asL μ1 (.obj n) = some ys)
    (he : WE X e ρ μ1 fun p μ2 => ∃ xs, μ2[n]? = some (.lst xs) ∧ xs.length < sizeLine ∧ Qa .non (μ2.set n (.lst (xs ++ [p]))))
    (hbase : attributeBase o "append" X.env (eval o X.env) = eval o X.env := by rfl)
    (hfew : ((backTo cp (starEach [e] X.env)).all (fun x => !x.1) && (backToKw cp (keywordEach [] X.env)).all (fun x => x.1.isSome)
      && decide (([e] : List Expr).length + ([] : List Keyword).length + (if ([] : List Keyword).isEmpty then 0 else 1) < 30)) = true := by rfl)
    (hline : (apos.endLine == cp.line) = true := by rfl) (hs : starEach [e] X.env = (false, eval e X.env) :: starEach [] X.env := by rfl) (hplain : (backTo cp (starEach [] X.env)).any (·.1) = false := by rfl) :
    WE X (.Call (.Attribute o "append" apos) [e] [] cp) ρ μ Qa := fun ad σ H Q R f => by
  refine wE.of (pe_bm PySem.F.plainAttrs_list PySem.F.slot_list_append PySem.F.type_list_append mt_append (pe_w o) (pa_w [e]) hbase hfew hline hs hplain) ?_
  refine ho ad σ H _ R fun ad1 v H1 s1 m1 r1 => ⟨r1.tyL m1 h1, ?_⟩
  refine (WA.cons (es := []) (Qa := fun ps m2 => ∃ p xs, ps = [p] ∧ m2[n]? = some (.lst xs) ∧ xs.length < sizeLine ∧ Qa .non (m2.set n (.lst (xs ++ [p])))) (WE.mono he fun p m q => WA.nil (by obtain ⟨xs, q1, q2, q3⟩ := q; exact ⟨p, xs, rfl, q1, q2, q3⟩)) hs) (ad ++ ad1) σ H1 _ (R.mono s1 m1) fun ad2 vs H2 ps μ2 s2 m2 r2 q => ?_
  obtain ⟨p, xs, rfl, h2, hl, hQ⟩ := q
  obtain ⟨u, e2, ru⟩ := r2.inv1
  obtain ⟨l, e3, hl3⟩ := (r1.mono s2).obj_inv
  obtain ⟨ws, hw, rw'⟩ := m2.mem n l _ hl3 h2
  refine ⟨l, ws, u, e3, e2, hw, by rw [← rw'.length]; exact hl, ?_⟩
  have s3 : Stp (ad ++ ad1 ++ ad2) [] H2 (upd H2 l (.lst (ws ++ [u]))) := Stp.write hl3
  have m3 := m2.write (o := .lst (ws ++ [u])) (m := .lst (xs ++ [p])) hl3 ⟨_, upd_same, (rw'.append (RpL.cons ru RpL.nil)).wr hl3⟩
  refine f (ad1 ++ (ad2 ++ [])) .non _ .non _ (s1.trans (s2.trans s3)) ?_ Rp.non' hQ
  rw [List.append_nil, ← AD.append_assoc]; exact m3
end
end L3

namespace L3
open PySem PySem.Spec L2
section
variable {X : Cx} {ad : AD} {σ : L2.St} {H : Hp} {ρ : Env} {μ μ1 : Mem} {p q r : PV} {a b e tg : Expr} {pos cp : Pos} {D : AEnds}
/-! ### a for over what is drawn -/
def DIW (X : Cx) (tg iter : Expr) (ρ : Env) (μ : Mem) (Qa : List PV → (Mem → Prop) → Mem → Prop) : Prop :=
  ∃ wi, PI X tg iter wi ∧ ∀ ad σ H (R : It → Hp → Prop), Rst ad X.K H σ ρ μ → (∀ ad2 J H' xs M μ', Stp ad ad2 H H' → Mst (ad ++ ad2) X.K H' μ' → WalkD X.K (ad ++ ad2) H' J xs M → Qa xs M μ' → R J H') → wi σ H R
theorem DIW.list {Qa : List PV → (Mem → Prop) → Mem → Prop} (h : WE X e ρ μ fun p m => ∃ xs, asL m p = some xs ∧ Qa xs (Keeps p xs) m) : DIW X tg e ρ μ Qa :=
  ⟨_, pi_list (pe_w e), fun ad σ H Q R hQ => h ad σ H _ R fun ad2 v H' p m' s m r q => by
    obtain ⟨xs, hl, q⟩ := q
    obtain ⟨l, e1, h1, h2⟩ := r.seq_stays hl m
    exact ⟨l, e1, h1, hQ ad2 _ H' xs _ m' s m (WalkD.list h2) q⟩⟩
theorem DS.forW {body : List Stmt} {iter : Expr} (po : PassesOwn (model X.prog X.w) X.A X.env X.xe) (hc : X.calm = true)
    (hi : DIW X tg iter ρ μ fun xs M μ1 => ∃ Iv : Nat → Env → Mem → Prop, Iv 0 ρ μ1 ∧ (∀ i ρ μ, i ≤ xs.length → Iv i ρ μ → M μ) ∧
      (∀ (i : Nat) p ρ μ, xs[i]? = some p → Iv i ρ μ → ∃ ρ', DG X tg p ρ μ ρ' ∧ DSs X body ρ' μ { nx := Iv (i + 1), ct := Iv (i + 1), bk := D.nx, rt := D.rt, xx := D.xx }) ∧
      (∀ ρ μ, Iv xs.length ρ μ → D.nx ρ μ))
    (hfs : ∀ x, foldedSetIterable iter X.env x = pure x := by intro _; rfl) : DS X (.For tg iter body [] pos) ρ μ D := fun ad σ H Dc R C => by
  obtain ⟨wi, hpi, hwi⟩ := hi
  refine wS.of (ps_for po hc hpi (pg_w tg) (pss_w body) hfs) (hwi ad σ H _ R fun ad1 J H1 xs M μ1 s1 m1 w hq => ?_)
  obtain ⟨Iv, h0, hM, hs, hd⟩ := hq
  have C1 := C.step s1
  refine ⟨fun i m σ' H' => m = xs.length - i ∧ i ≤ xs.length ∧ ∃ adx ρ' μ', Stp (ad ++ ad1) adx H1 H' ∧ Rst (ad ++ ad1 ++ adx) X.K H' σ' ρ' μ' ∧ Iv i ρ' μ', ⟨_, rfl, Nat.zero_le _, [], ρ, μ1, Stp.refl, by rw [AD.append_nil]; exact R.mono s1 m1, h0⟩, ?_⟩
  rintro i m σ' H' ⟨rfl, hle, adx, ρ2, μ2, s2, R2, i2⟩
  obtain ⟨w1, w2, w3⟩ := w _ H' μ2 s2.kept R2.m (hM i ρ2 μ2 hle i2)
  by_cases hlt : i < xs.length
  · refine .inr ⟨w1 i hlt, fun σ3 H3 => ∃ adx ρ' μ', Stp (ad ++ ad1) adx H1 H3 ∧ Rst (ad ++ ad1 ++ adx) X.K H3 σ3 ρ' μ' ∧ Iv (i + 1) ρ' μ', fun σ3 H3 ⟨adz, ρ3, μ3, s3, R3, i3⟩ => ⟨xs.length - (i + 1), by omega, rfl, hlt, adz, ρ3, μ3, s3, R3, i3⟩, fun x H2 y => ?_⟩
    have e : xs[i]? = some xs[i] := by simp [hlt]
    obtain ⟨s3, m3, r3, _⟩ := w3 i _ x H2 e y
    obtain ⟨ρ3, hg, hbody⟩ := hs i _ ρ2 μ2 e i2
    have R3 : Rst (ad ++ ad1 ++ adx) X.K H2 σ' ρ2 μ2 := by
      have := R2.mono s3 (by rw [AD.append_nil]; exact m3)
      rwa [AD.append_nil] at this
    refine hg _ σ' H2 x _ R3 r3 fun σ4 R4 => ?_
    have C2 : Cov X (ad ++ ad1 ++ adx) H2 D Dc := by
      have := (C1.step s2).step s3
      rwa [AD.append_nil] at this
    have s23 : Stp (ad ++ ad1) adx H1 H2 := by
      have := s2.trans s3
      rwa [List.append_nil] at this
    refine hbody _ σ4 H2 _ R4 ⟨fun ad3 σ3 H3 ρ3 μ3 s3 R3 d3 => ?_, fun ad3 σ3 H3 ρ3 μ3 s3 R3 d3 => C2.nx ad3 σ3 H3 ρ3 μ3 s3 R3 d3, fun ad3 σ3 H3 ρ3 μ3 s3 R3 d3 => ?_, C2.rt, C2.xx⟩
    · exact ⟨adx ++ ad3, ρ3, μ3, s23.trans s3, by rw [← AD.append_assoc]; exact R3, d3⟩
    · exact ⟨adx ++ ad3, ρ3, μ3, s23.trans s3, by rw [← AD.append_assoc]; exact R3, d3⟩
  · have e : i = xs.length := by omega
    subst e
    exact .inl ⟨w2, C1.nx adx σ' H' ρ2 μ2 s2 R2 (hd _ _ i2)⟩
end
/-! ### the store with one more object -/
theorem app_last {μ : Mem} {m : MO} : (μ ++ [m])[μ.length]? = some m := by simp
theorem app_setl {μ : Mem} {m m' : MO} : (μ ++ [m]).set μ.length m' = μ ++ [m'] := by simp
theorem chg_set {μ : Mem} {k : Nat} {m : MO} (hb : belowM μ.length m = true) : Chg μ (μ.set k m) := Chg.refl.set hb
/-! ### the place of a number -/
noncomputable def plN (h : Fin 4) (t : Bool) (k : Int) : Int × Int := if hk : 0 ≤ k then Classical.choose (nuW_surj h t k hk) else (0, 0)
theorem plN_nu {h : Fin 4} {t : Bool} {k : Int} (hk : 0 ≤ k) : nuW h t (plN h t k) = k := by
  unfold plN
  rw [dif_pos hk]
  exact Classical.choose_spec (nuW_surj h t k hk)
theorem plN_of {h : Fin 4} {t : Bool} {k : Int} {p : Int × Int} (e : nuW h t p = k) : plN h t k = p := nuW_inj (h := h) (t := t) (by rw [e, plN_nu (by rw [← e]; exact nuW_nonneg _ _ _)])
theorem plN_pl {h : Fin 4} {t : Bool} {k : Int} {u : Int × Int} (e : nuF u.1 u.2 = k) : plN h t k = plW h t u := plN_of (by rw [nuW_pl]; exact e)
/-! ### ways of one spiral to another -/
/-! ### the numbers whose places are one -/
theorem KTab.at {K : PySem.W.Frag} {w : World} {mg : Str → Option Value} {x z : Str} {v : V} {a : Addr} {es : Array DictEntry} {n : Nat} {u : Value} (h1 : mg x = some (.ref a)) (h2 : K.lookup a = some ⟨.type "dict", none, .dict es n, #[]⟩) (hl : PySem.W.KeysLit w.params es.toList)
    (h3 : PySem.W.nsIn K a z = some (some u)) (r : RelV v u) : KTab K w mg x z v := ⟨a, h1, es, n, u, h2, hl, h3, r⟩
section
variable {X : Cx} {P : Program} {w : World} {K : PySem.W.Frag} {mg : Str → Option Value} {base : Heap} {N : List Str} {sc scope : Scope} {k : Nat} {ρ : Env} {μ μ1 : Mem} {tg : Expr} {pos : Pos} {D : AEnds} {sts : List Stmt}
end
end L3

namespace L3
open PySem PySem.Spec L2
/-! ### the legs of the plain spiral -/
theorem r4 (r : Int) : ∃ k, r = 4 * k ∨ r = 4 * k + 1 ∨ r = 4 * k + 2 ∨ r = 4 * k + 3 := ⟨r / 4, by omega⟩
end L3

namespace L3
open PySem PySem.Spec L2 PyProof.Rows
/-! ### a caught exception is kept as data -/
section
variable {X : Cx} {pins : List (Addr × Obj)} {σ : L2.St} {H : Hp} {s s' sI : Shared} {B : Heap} {a : Addr} {o : HO}
theorem hokAdd {P : Program} {w : World} {h : Heap} (x : HOk P w H h) (hn : H a = none) (new : ObjOk P w (upd H a o) h a o) : HOk P w (upd H a o) h := fun b u e => by
  by_cases hb : b = a
  · subst hb
    rw [upd_same] at e
    cases e
    exact new
  · rw [upd_ne hb] at e
    exact (x b u e).stay (fun c v _ q => q) (fun c q => by rw [upd_ne (ne_of_none q hn)]; exact q) fun c xs q => by rw [upd_ne (ne_of_none q hn)]; exact q
theorem landedX (I : Inv X pins σ H sI) (nb : ∀ b o, sI.heap.get? b = some o → b ∉ frs X.stack → B.get? b = some o) (st : B.StaysIn s'.heap) (up : sI.heap.UpToSlots s'.heap) (os : s'.os = sI.os) (ag : AllBare s'.gens)
    (ha : sI.heap.get? a = none) (hn : H a = none) (new : ObjOk X.prog X.w (upd H a o) s'.heap a o) : Inv X pins σ (upd H a o) s' := by
  have nf : ∀ b ∈ frs X.stack, ∀ o, sI.heap.get? b = some o → ∃ sl, s'.heap.get? b = some { o with slots := sl } := fun b hb o e => by
    obtain ⟨_, o', e', hd⟩ := I.stack.mem hb
    rw [e] at e'; cases e'
    exact up b o e hd
  have ne : ∀ {b : Addr} {u : Obj}, sI.heap.get? b = some u → b ≠ a := fun {b u} q z => by rw [z, ha] at q; cases q
  have J := I.call (ch := []) (h' := s'.heap) (g' := s'.gens) (t' := s'.toks) (d' := s'.drawn) (H' := upd H a o)
    ⟨fun b o e _ hb _ => st b o (nb b o e hb), fun b o e _ hb _ => nf b hb o e, fun _ _ q n _ => by rw [upd_ne (ne q)]; exact n, fun b o e _ => by
      by_cases hb : b ∈ frs X.stack
      · obtain ⟨sl, q⟩ := nf b hb o e
        exact ⟨_, q⟩
      · exact ⟨o, st b o (nb b o e hb)⟩, fun b xs q => by rw [upd_ne (ne_of_none q hn)]; exact q, fun b u xs q => by rw [upd_ne (ne_of_none q hn)]; exact q, fun b ps q => ⟨#[], by rw [upd_ne (ne_of_none q hn), q]; simp⟩⟩
    (hokAdd ((I.inGround nb).kept st) hn new) ag (fun _ z => nomatch z)
  obtain ⟨a1, a2, a3, a4, a5⟩ := s'
  have e5 : a5 = sI.os := os
  subst e5
  exact J
theorem suiteX (I : Inv X pins σ H s) : Inv (X.suite a (X.pn ++ pins)) [] σ H s :=
  ⟨I.ok.suite _ _, I.os, I.bare, I.base, I.loc, I.cell, I.free, I.freeC, fun p hp => I.pin p (by rw [List.append_nil] at hp; exact hp), I.hok, I.len⟩
theorem unsuiteX {pn' : List (Addr × Obj)} (I : Inv (X.suite a (X.pn ++ pins)) pn' σ H s) (ok : X.Ok) : Inv X pins σ H s :=
  ⟨ok, I.os, I.bare, I.base, I.loc, I.cell, I.free, I.freeC, fun p hp => I.pin p (List.mem_append_left _ hp), I.hok, I.len⟩
def wKeep (K : PySem.W.Frag) (c : Value) (i : Nat) (ts : Addr → TS) (Wout : WX) (D : Ends) : WX := fun cls d σ H =>
  ∃ b, PySem.W.exmOne K cls c = some b ∧ (b = true → ∀ a, H a = none → ts a { nx := fun σ' H' => D.nx (σ'.set i none) H', rt := D.rt, bk := fun σ' H' => D.bk (σ'.set i none) H', ct := fun σ' H' => D.ct (σ'.set i none) H' } (σ.set i (some (.ref a))) (upd H a (exH a cls d))) ∧
    (b = false → Wout cls d σ H)
end
section
variable {X : Cx} {x n : Str} {c : Value} {i : Nat} {body suite : List Stmt} {b₀ : Stmt} {np pos pos' : Pos} {tb : WX → TS} {ts : Addr → TS} {Wout : WX}
theorem ps_try_keep (hs : X.stack = X.env :: X.outer) (hf : X.env.frame = some X.env.locals) (hN : X.N.Nodup) (hi : X.N[i]? = some n) (hln : X.env.kindOf n = some .local) (hc : Names X x c) (tk : Takes X Wout)
    (hb : ∀ (W : WX) (pn : List (Addr × Obj)) (xe : Value → Shared → Prop), Takes (X.tr pn xe) W → PassesOwn (model X.prog X.w) X.A X.env xe → PSs (X.tr pn xe) body (tb W))
    (hsu : ∀ (a : Addr) (pn : List (Addr × Obj)), PSs (X.suite a pn) (b₀ :: suite) (ts a)) :
    PS X (.Try body [.ExceptHandler (some (.Name x np)) (some n) (b₀ :: suite) pos'] [] [] pos) (fun D σ H => tb (wKeep X.K c i ts Wout D) D σ H) := by
  refine ⟨fun pins s σ H D I h => ?_⟩
  have ok := I.ok
  have hfr : X.A.frames = some (X.env :: X.outer) := by rw [ok.frames, hs]
  have hloc : Loc X.env.scope n := .inl hln
  refine wpAny_Try_except ?_
  refine wpAny_mono ((hb (wKeep X.K c i ts Wout D) (X.pn ++ pins) (fun e s₁ => wpAny (model X.prog X.w) X.A (noteFrame e X.env) (fun _ s₂ => wpAny (model X.prog X.w) X.A (setFlight e none) (fun _ s₃ =>
    wpAny (model X.prog X.w) X.A (handleBy e X.env [.ExceptHandler (some (.Name x np)) (some n) (b₀ :: suite) pos']) (SP X pins D) X.xe s₃) X.xe s₂) X.xe s₁) (fun u s' xx => ?_) PassesOwn.looking).run [] s σ H D (I.toTry _) h) (fun f s1 hsp => ?_) (fun e s1 he => he)
  · obtain ⟨a, B, sI, pins', σ', H', cls, d, rfl, J', nb, up, sky, na, os, ag, b, hb1, hyes, hno⟩ := xx
    have J : Inv X pins σ' H' sI := J'.ofTry ok
    have sky' : Sky B (X.env :: X.outer) a (Zc cls d) X.env.locals s'.heap := by rw [← hs]; exact sky
    show wpAny (model X.prog X.w) X.A (noteFrame (.ref a) X.env) _ _ _
    refine Sky.land Zc.steady hfr hf sky' fun h3 fl3 up3 => ?_
    have J3 : Inv X pins σ' H' { s' with heap := h3 } := J.landed nb fl3.1 (up.trans up3) os ag
    obtain ⟨oe3, vs3, he3, hz3, hd3⟩ := fl3.there
    have notFr : ∀ {h : Heap} {o : Obj} {vs : Array Value}, h.FunFrames B (X.env :: X.outer) → h.get? a = some o → o.data = .fields vs → a ∉ frs (X.env :: X.outer) := fun {h o vs} ff e dd hm => by
      obtain ⟨_, o', e', hnf⟩ := ff.mem hm
      rw [e] at e'; cases e'
      exact hnf _ dd
    have nfr := notFr fl3.2.2.1 he3 hd3
    have nL : a ≠ X.env.locals := fun z => nfr (List.mem_filterMap.mpr ⟨X.env, List.mem_cons_self, by rw [hf, z]⟩)
    have nF : a ∉ X.fs := fun hm => by
      obtain ⟨e, he, q⟩ := List.mem_filterMap.mp hm
      exact nfr (List.mem_filterMap.mpr ⟨e, List.mem_cons_of_mem _ he, q⟩)
    have hI : sI.heap.get? a = none := by
      cases q : sI.heap.get? a with
      | none => rfl
      | some u =>
        have := nb a u q (by rw [hs]; exact nfr)
        rw [fl3.2.1] at this
        cases this
    have S3 := J3.suite he3 hd3 na nL nF
    refine wpAny_handleBy_cons (codeAny_handlers_test ?_) (by intro q; cases q)
    have LT : PySem.W.Looks (model X.prog X.w) h3 (typeOf (.ref a)) cls := fun A Q E s k q => wpAny_typeOf_ref (k _ _ he3) (by rw [hz3.1]; exact q)
    have LM := PySem.W.exm_one (M := model X.prog X.w) (J3.kIn) LT hb1
    have test : ∀ {Q : Value → Shared → Prop} {E : Value → Shared → Prop}, Q c { s' with heap := h3 } → wpAny (model X.prog X.w) (X.A.mark (some (.ref a))) (eval (.Name x np) X.env) Q E { s' with heap := h3 } := fun {Q E} q => by
      obtain ⟨hg, hdbg, hm | ⟨hm, hv, hnn⟩⟩ := hc
      · exact ld_glob (X := X.suite a ((a, oe3) :: (X.pn ++ pins))) S3 hg hm q hdbg
      · exact ld_blt (X := X.suite a ((a, oe3) :: (X.pn ++ pins))) S3 hg hm hv q hnn hdbg
    refine test (LM.here ?_)
    cases b with
    | true =>
      refine codeAny_handlers_suite_as ?_
      refine HandSPX.lands_againZ fl3 fun h4 fl4 up4 => ?_
      obtain ⟨oe4, vs4, he4, hz4, hd4⟩ := fl4.there
      have J4 : Inv X pins σ' (upd H' a (exH a cls d)) { s' with heap := h4 } := landedX J nb fl4.1 ((up.trans up3).trans up4) os ag hI na
        ⟨⟨oe4, he4, hz4, vs4, hd4⟩, ⟨oe4, he4⟩, fun h1 h2 ⟨oe, e1, z⟩ k => ⟨oe, k _ e1, z⟩⟩
      have S4 := suiteX (a := a) J4
      refine store_ok (X := X.suite a (X.pn ++ pins)) (v := .ref a) S4 hN hi hloc rfl (fun s5 S5 => ?_) (.inr hln)
      refine wpAny_mono ((hsu a (X.pn ++ pins)).run [] s5 _ _ _ S5 (hyes rfl a na)) (fun f s6 hsp => ?_) (fun _ _ z => False.elim z)
      have end_ : ∀ {σ6 : L2.St} {H6 : Hp} {Q : Shared → Prop}, Inv (X.suite a (X.pn ++ pins)) [] σ6 H6 s6 → (∀ s7, Inv X pins (σ6.set i none) H6 s7 → Q s7) →
          wpAny (model X.prog X.w) X.A (do bindName X.env n .none; unbindBehindTheSuite X.env n pos') (fun _ s7 => Q s7) X.xe s6 := fun {σ6 H6 Q} S6 hq => gone_ok (unsuiteX S6 ok) hN hi hln hq
      cases f with
      | next =>
        obtain ⟨σ6, H6, S6, q6⟩ := hsp
        exact end_ S6 fun s7 J7 => ⟨_, _, J7, q6⟩
      | brk =>
        obtain ⟨σ6, H6, S6, q6⟩ := hsp
        exact end_ S6 fun s7 J7 => ⟨_, _, J7, q6⟩
      | cont =>
        obtain ⟨σ6, H6, S6, q6⟩ := hsp
        exact end_ S6 fun s7 J7 => ⟨_, _, J7, q6⟩
      | ret u =>
        obtain ⟨v6, σ6, H6, S6, r6, q6⟩ := hsp
        exact end_ S6 fun s7 J7 => ⟨_, _, _, J7, r6, q6⟩
    | false =>
      show wpAny _ X.A (handleBy (.ref a) X.env []) _ _ _
      refine wpAny_handleBy_nil ?_
      obtain ⟨k1, k2, k3, oe, vs, T, oT, ts', he, hz, hd, h1, hr⟩ := id fl3
      unfold PySem.passOn
      refine wpAny_bind (wpAny_field he hd h1 ?_)
      rw [if_neg (show ¬ ((Value.ref T == Value.none) = true) from by simp)]
      have fin : wpAny (model X.prog X.w) X.A (setFlight (.ref a) X.env.frame) (fun _ s4 => wpAny (model X.prog X.w) X.A (throw (.ref a) : Sem Flow) (SP X pins D) X.xe s4) X.xe { s' with heap := h3 } := by
        rw [hf]
        refine HandSPX.setFlight_upZ fl3 fun h4 hh4 up4 => wpAny_throw (tk _ _ ?_)
        exact ⟨a, B, sI, pins, σ', H', cls, d, rfl, J, nb, (up.trans up3).trans up4, .inr (.inr (by rw [hs]; exact hh4)), na, os, ag, hno rfl⟩
      first
        | exact wpAny_bind (wpAny_pure (wpAny_bind fin))
        | exact wpAny_bind fin
  · cases f with
    | next =>
      obtain ⟨σ', H', J', q⟩ := hsp
      exact wpAny_execs_nil ⟨σ', H', J'.ofTry ok, q⟩
    | brk =>
      obtain ⟨σ', H', J', q⟩ := hsp
      exact ⟨σ', H', J'.ofTry ok, q⟩
    | cont =>
      obtain ⟨σ', H', J', q⟩ := hsp
      exact ⟨σ', H', J'.ofTry ok, q⟩
    | ret u =>
      obtain ⟨v, σ', H', J', r, q⟩ := hsp
      exact ⟨v, σ', H', J'.ofTry ok, r, q⟩
end
end L3

namespace L3
open PySem PySem.Spec L2 PyProof.Rows
section
variable {X : Cx} {P : Program} {w : World} {K : PySem.W.Frag} {mg : Str → Option Value} {base : Heap} {N : List Str} {sc : Scope} {k j : Nat} {x : Str} {A : ASp} {ρ ρ' : Env} {μ μ1 μ2 μ' : Mem} {p q r : PV} {e a b tg : Expr} {es : List Expr} {pos cp : Pos} {D : AEnds} {st : Stmt} {sts : List Stmt} {z : EX}
/-! ### what surely lets out an exception -/
def DX (X : Cx) (e : Expr) (ρ : Env) (μ : Mem) (z : EX) (μ1 : Mem) : Prop :=
  ∀ ad σ H (Q : VK), Rst ad X.K H σ ρ μ → (∀ ad2 H' cls d, Stp ad ad2 H H' → Rst (ad ++ ad2) X.K H' σ ρ μ1 → RpX (ad ++ ad2) X.K H' z cls d → X0 X cls d σ H') → wE X e σ H Q
theorem DX.call (cx : CxD X P w K mg base N sc k) {ps : List PV} (F : FnA P w K mg base j x A) (hj : j ≤ k) (hx : sc.names.lookup x = some .globalImplicit) (ha : DA X (e :: es) ρ μ ps μ1)
    (hA : A ps μ1 (fun _ _ => False) (fun y m => y = z ∧ m = μ2))
    (hdb : (x == ("__debug__" : Str)) = false := by decide) (he : starEach (e :: es) X.env = (false, eval e X.env) :: starEach es X.env := by rfl) (hpl : (backTo pos (starEach es X.env)).any (·.1) = false := by rfl) :
    DX X (.Call (.Name x cp) (e :: es) [] pos) ρ μ z μ2 := fun ad σ H Q R f => by
  obtain ⟨fa, fd, pn, F1, hm, hk, hb⟩ := cx.fn F
  refine wE.of (pe_callS (E := L2.WE (X0 X)) F1 (cx.room.mono hj) (cx.gl x hx) hm hk hb (fun σ => passAt takesX0 σ) (pa_w _) hdb he hpl) (ha ad σ H _ R fun ad1 vs H1 s1 m1 r1 => ?_)
  refine ⟨ad ++ ad1, μ1, ps, _, _, m1, r1, hA, fun _ _ _ _ _ _ _ _ hq => hq.elim, fun ad2 H' μ' y cls d s m rx hz => ?_⟩
  obtain ⟨rfl, rfl⟩ := hz
  have m' : Mst (ad ++ (ad1 ++ ad2)) X.K H' μ' := by rwa [← AD.append_assoc]
  exact f (ad1 ++ ad2) H' cls d (s1.trans s) (R.mono (s1.trans s) m') (by rwa [← AD.append_assoc])
theorem DS.asgX (h : DX X e ρ μ z μ1) (hx : D.xx z ρ μ1) (hs : swapsWithSole [tg] e pos.line X.env = pure false := by rfl) (hw : swappedStores [tg] e X.env = pure none := by rfl)
    (h1 : (assignEach [tg] X.env).map (·.2) = [assign tg X.env] := by rfl) : DS X (.Assign [tg] e pos) ρ μ D := fun ad σ H Dc R C =>
  wS.of (ps_asg (pe_w e) (pg_w tg) hs hw h1) (h ad σ H _ R fun ad2 H' cls d s R' r => C.xx ad2 σ H' ρ μ1 z cls d s R' r hx)
/-! ### a def that may raise -/
def fnEndsX (μ0 : Mem) (Q : PV → Mem → Prop) (E : EX → Mem → Prop) : AEnds where
  nx := fun _ μ1 => ∃ r μ', Done μ0 .non μ1 r μ' ∧ Q r μ'
  rt := fun p μ1 => ∃ r μ', Done μ0 p μ1 r μ' ∧ Q r μ'
  xx := fun z _ μ1 => E z μ1
theorem FnOk.ofX {qual : Str} {st : Stmt} {f : Addr} {fd : FuncData} {ps : List Str} (F : Fun K x qual st f fd) (S : FnScope N ps (defScope st))
    (len : ∀ args μ Q E, A args μ Q E → args.length = ps.length)
    (body : ∀ (X : Cx) (args : List PV) (μ : Mem) (Q : PV → Mem → Prop) (E : EX → Mem → Prop), CxF X P w K mg base N (defScope st) k → A args μ Q E → DSs X (defBody st) (entry N args) μ (fnEndsX μ Q E)) : FnOk P w K mg base (L2.CX P w) (k + 1) f fd ps (conc K A) := by
  obtain ⟨oc, od, kV, doc, pm, an, cdv, ct, osl, rfl, lk, hcd⟩ := F.ex
  refine fn_of (N := N) lk hcd S (fun vs H Q E h => ?_) fun A' outer s H vs Q E hr h => ?_
  · obtain ⟨ad, μ, args, Qa, Ea, m, r, hA, _⟩ := h
    rw [← r.length]
    exact len _ _ _ _ hA
  · obtain ⟨ad, μ, args, Qa, Ea, m, r, hA, hQ, hE⟩ := h
    have tk : Takes (cxOf (L2.CX P w) P w K mg base N qual (defScope st) f cdv A' outer s H E) (fun cls d _ H => E cls d H) := takes_of rfl rfl rfl rfl
    have po : PassesOwn (model (cxOf (L2.CX P w) P w K mg base N qual (defScope st) f cdv A' outer s H E).prog (cxOf (L2.CX P w) P w K mg base N qual (defScope st) f cdv A' outer s H E).w) (cxOf (L2.CX P w) P w K mg base N qual (defScope st) f cdv A' outer s H E).A (cxOf (L2.CX P w) P w K mg base N qual (defScope st) f cdv A' outer s H E).env (cxOf (L2.CX P w) P w K mg base N qual (defScope st) f cdv A' outer s H E).xe := passes_of rfl
    generalize hX : cxOf (L2.CX P w) P w K mg base N qual (defScope st) f cdv A' outer s H E = X at tk po
    have cx : CxF X P w K mg base N (defScope st) k := by
      subst hX
      exact { eP := rfl, ew := rfl, eK := rfl, emg := rfl, eb := rfl, eN := rfl, vis := fun y hy => vis_of hy, sto := fun y hy => ⟨loc_of hy, .inl rfl⟩, loc := fun y hy => hy, gl := fun y hy => hy, calm := rfl, room := hr, esc := rfl, po := po, nd := S.nd, kind := S.kind, stk := rfl, frm := rfl }
    refine ⟨wSs X (defBody st), pss_w _, ?_⟩
    refine body X args μ Qa Ea cx hA ad (L2.start N vs) H _ ⟨by rw [cx.eK]; exact m, by rw [cx.eK]; exact RpE.entry r⟩ ?_
    refine ⟨fun ad2 σ' H' ρ' μ' s2 R' d => ?_, fun _ _ _ _ _ _ _ d => d.elim, fun _ _ _ _ _ _ _ d => d.elim, fun ad2 v H' p μ' s2 m2 r2 d => ?_, fun ad2 σ' H' ρ' μ' y cls d s2 R' rx dz => ?_⟩
    · obtain ⟨r', μ3, d1, d2⟩ := d
      have mm := R'.m
      rw [cx.eK] at mm
      obtain ⟨ad3, s3, m3, r3⟩ := d1.fin m s2 mm (Rp.non' (ad := ad ++ ad2) (K := K) (H := H'))
      exact hQ ad3 H' μ3 r' .non s3 m3 r3 d2
    · obtain ⟨r', μ3, d1, d2⟩ := d
      rw [cx.eK] at m2 r2
      obtain ⟨ad3, s3, m3, r3⟩ := d1.fin m s2 m2 r2
      exact hQ ad3 H' μ3 r' v s3 m3 r3 d2
    · have mm := R'.m
      rw [cx.eK] at mm rx
      exact X0.of tk (hE ad2 H' μ' y cls d s2 mm rx dz)
theorem DefAt.okX {ps : List Str} (d : DefAt K mg x st ps) (S : FnScope N ps (defScope st)) (len : ∀ args μ Q E, A args μ Q E → args.length = ps.length)
    (body : ∀ (X : Cx) (args : List PV) (μ : Mem) (Q : PV → Mem → Prop) (E : EX → Mem → Prop), CxF X P w K mg base N (defScope st) k → A args μ Q E → DSs X (defBody st) (entry N args) μ (fnEndsX μ Q E)) : FnA P w K mg base (k + 1) x A := by
  obtain ⟨f, fd, F, hm, hB⟩ := d.ex
  exact ⟨f, fd, ps, FnOk.ofX F S len body, hm, F.kp, hB⟩
/-! ### try: body, except C as e: c = e -/
def excP (z : EX) : PV := .exc z.C z.fs z.vs
theorem RpX.rp {ad : AD} {H : Hp} {a : Addr} {cls : Value} {d : Option Addr} (h : RpX ad K H z cls d) (ha : H a = none) (hn : a ∉ ad) : Rp ad K (upd H a (exH a cls d)) (excP z) (.ref a) := by
  obtain ⟨ws, rfl, hd, hl, r⟩ := h
  have s : StpW ad [] H (upd H a (exH a (.ref z.C) d)) := ⟨fun b o q _ => by rw [upd_ne (ne_of_none q ha)]; exact q, fun _ q => nomatch q⟩
  unfold excP Rp
  refine ⟨a, d, ws, rfl, ⟨upd_same, hn⟩, ?_, hl, ?_⟩
  · cases d with
    | none => exact hd
    | some dd => exact ⟨by rw [upd_ne (ne_of_none hd.1 ha)]; exact hd.1, hd.2⟩
  · have := RpL.monoW s _ _ r
    rwa [AD.append_nil] at this
theorem CxF.tr (cx : CxF X P w K mg base N sc k) {pn : List (Addr × Obj)} {xe : Value → Shared → Prop} (po : PassesOwn (model X.prog X.w) X.A X.env xe) : CxF (X.tr pn xe) P w K mg base N sc k :=
  { eP := cx.eP, ew := cx.ew, eK := cx.eK, emg := cx.emg, eb := cx.eb, eN := cx.eN, vis := cx.vis, sto := cx.sto, loc := cx.loc, gl := cx.gl, calm := cx.calm, room := cx.room, esc := cx.esc, po := po, nd := cx.nd, kind := cx.kind, stk := cx.stk, frm := cx.frm }
theorem DS.tryCaught (cx : CxF X P w K mg base N sc k) {C0 : Addr} {n c : Str} {body : List Stmt} {np p1 p2 p3 pos' : Pos} (i j : Nat) (hi : N[i]? = some n) (hj : N[j]? = some c) (hn : sc.names.lookup n = some .local) (hcl : stoB sc c = true) (hx : sc.names.lookup x = some .globalImplicit) (hm : mg x = some (.ref C0))
    (hb : ∀ X', CxF X' P w K mg base N sc k → DSs X' body ρ μ { D with xx := fun z ρ' μ' => PySem.W.exmOne K (.ref z.C) (.ref C0) = some true ∧ i < ρ'.length ∧ D.nx (((ρ'.set i (some (excP z))).set j (some (excP z))).set i none) μ' })
    (hnd : (n == ("__debug__" : Str)) = false := by decide) (hncd : (n == ("__classdict__" : Str)) = false := by decide) (hxd : (x == ("__debug__" : Str)) = false := by decide)
    (hsw : ∀ env : PySem.Env, env = X.env → swapsWith (.Name n p2) (some (.Name c p1)) p3.line env = pure false := by intro _ h; subst h; rfl) :
    DS X (.Try body [.ExceptHandler (some (.Name x np)) (some n) [.Assign [.Name c p1] (.Name n p2) p3] pos'] [] [] pos) ρ μ D := fun ad σ H Dc R C => by
  have hi' : X.N[i]? = some n := by rw [cx.eN]; exact hi
  have hj' : X.N[j]? = some c := by rw [cx.eN]; exact hj
  refine wS.of (ps_try_keep (tb := fun W D σ H => ∀ pn xe, Takes (X.tr pn xe) W → PassesOwn (model X.prog X.w) X.A X.env xe → wSs (X.tr pn xe) body D σ H) (ts := fun a => tSeq (tAsg (tVar i) (gName j)) tNext) cx.stk cx.frm cx.nd' hi' (by unfold Env.kindOf; rw [cx.esc]; exact hn) ⟨cx.gl x hx, hxd, .inl (by rw [cx.emg]; exact hm)⟩ takesX0
    (fun W pn xe tk po => ⟨fun pins s σ H D I h => (h pn xe tk po).go pins s I⟩) (fun a pn => pss_cons (ps_set (X := X.suite a pn) cx.nd' hj' (cx.sto c hcl).1 (pe_var hi' (.inl (cx.loc n hn)) hnd hncd) (hsw _ rfl) (cx.sto c hcl).2) pss_nil)) ?_
  intro pn xe tk po
  refine hb (X.tr pn xe) (cx.tr po) ad σ H Dc R ⟨C.nx, C.bk, C.ct, C.rt, fun ad2 σ' H' ρ' μ' z cls d s R' rx hz => ?_⟩
  obtain ⟨e1, e0, e2⟩ := hz
  obtain ⟨ws, rfl, rest⟩ := id rx
  refine X0.of tk ⟨true, by rw [cx.eK]; exact e1, fun _ a na => ?_, fun q => Bool.noConfusion q⟩
  have hna : a ∉ ad ++ ad2 := R'.m.notIn na
  have st : Stp (ad ++ ad2) [] H' (upd H' a (exH a (.ref z.C) d)) := Stp.data na
  have m2 : Mst (ad ++ ad2) X.K (upd H' a (exH a (.ref z.C) d)) μ' := R'.m.data na
  have rp := rx.rp na hna
  have hlen : i < σ'.length := by
    rw [← R'.e.len]
    exact e0
  refine ⟨.ref a, by rw [List.getElem?_set_self hlen], ?_⟩
  have E2 : RpE (ad ++ ad2) X.K (upd H' a (exH a (.ref z.C) d)) ρ' σ' := by
    have := R'.e.mono st
    rwa [AD.append_nil] at this
  exact C.nx ad2 _ _ _ μ' (by have := s.trans st; rwa [List.append_nil] at this) ⟨m2, (((E2.set i rp).set j rp).wipe [i])⟩ e2

/-! ### an exception of one's own, made by its __init__ -/
/-- C.__init__(self, ..), C an own class that has ValueError's -/
theorem pe_clsinit {C0 : Addr} {mc : Value} {pl : Sem Bool} {p1 p2 : Pos} {ta : TA} (hg : Gl X x) (hm : X.mg x = some (.ref C0)) (gS : PySem.W.specialIn X.K (.ref C0) "__getattribute__" = some (some (.builtin "type.__getattribute__"))) (rd : PySem.W.readsIn X.K C0 mc = true)
    (fc : PySem.W.findCls X.K (.ref C0) mc "__init__" = some (.val (.builtin "ValueError.__init__"))) (ha : PA X (e :: es) ta) (hd : (x == ("__debug__" : Str)) = false)
    (hc : eval (.Call (.Attribute (.Name x p1) "__init__" p2) (e :: es) [] pos) X.env = (do
      let ov ← eval (.Name x p1) X.env
      standAt p2.atName
      let (f, first) ← holding [ov] (getMethod ov "__init__" pl)
      callWith pos f first (backTo pos (starEach (e :: es) X.env)) (backToKw pos (keywordEach [] X.env))) := by rfl)
    (he : starEach (e :: es) X.env = (false, eval e X.env) :: starEach es X.env := by rfl) (hpl : (backTo pos (starEach es X.env)).any (·.1) = false := by rfl) :
    PE X (.Call (.Attribute (.Name x p1) "__init__" p2) (e :: es) [] pos) (tVeI X.K ta) := by
  refine ⟨fun pins s σ H Q I h => ?_⟩
  refine PySem.W.methodCall_KW (ld_glob I hg hm ?_ hd) hc
  refine PySem.W.method_cls I.kIn gS (PySem.W.cls_value I.kIn rd fc rfl ?_)
  show wpAny _ _ (callWith pos (Value.builtin "ValueError.__init__") [] (backTo pos (starEach (e :: es) X.env)) []) _ _ _
  refine PyProof.Rows.callWith_method1 (thn (ha.run pos pins _ σ H _ (I.tok _) h) fun us s1 ⟨vs, H1, I1, r1, a, C, ws, ev, hl, T, ea, q⟩ => ?_) he hpl
  subst ev
  cases r1 with
  | @cons _ u0 _ ur ra rw' =>
    obtain rfl : u0 = Value.ref a := ra
    have hlen : ur.length ≤ sizeLine := by
      rw [← Paired.length rw', sizeLine_eq]
      omega
    exact oinit_ok T I1 ea hlen fun s' J => ⟨.non, H1, J, rfl, q⟩
end
/-- NoNumber.__init__: the number is kept -/
def spNo (C : Addr) : Sp := fun vs H Q _ => ∃ (a : Addr) (n : Int), vs = [.ref a, .int n] ∧ B 100 n ∧ H a = some (exo a C none) ∧
  ∀ H' dx, (∀ b o, H b = some o → H' b = some o) → H' dx = none → dx ≠ a → Q .non (upd (upd H' dx (exd dx [(("number" : Str), V.int n)])) a (exo a C (some dx)))
/-- what the top says of NoNumber (st: its __init__), LaidError -/
structure NoTxt (K : PySem.W.Frag) (mg : Str → Option Value) (st : Stmt) (C C0 : Addr) : Prop where
  ini : ∃ fI fd, Fun K "__init__" "NoNumber.__init__" st fI fd ∧ PySem.W.findIn K (.ref C) "__init__" = some (some (.ref fI)) ∧ PySem.W.typeIn K (.ref fI) = some (.type "function") ∧ Binds K fd ["self", "number"] []
  mC : mg "NoNumber" = some (.ref C)
  mB : mg "LaidError" = some (.ref C0)
  mS : mg "str" = none
  T : OexC K C
  no : PySem.W.findIn K (.ref C) "number" = some none
  gS : PySem.W.specialIn K (.ref C0) "__getattribute__" = some (some (.builtin "type.__getattribute__"))
  rd : PySem.W.readsIn K C0 (.type "type") = true
  fc : PySem.W.findCls K (.ref C0) (.type "type") "__init__" = some (.val (.builtin "ValueError.__init__"))
  xf : XfC K C
  ex : PySem.W.exmOne K (.ref C) (.ref C0) = some true
  ha : PySem.W.findIn K (.ref C) "__class__" = some (some (.builtin "object.__class__"))
  hn : PySem.W.specialIn K (.builtin "object.__class__") "__get__" = some (some (.builtin "getset_descriptor.__get__"))
  ht : PySem.W.takesIn K (.builtin "object.__class__") = some true
  hm : PySem.W.mroIn K C (.type "object") = some true
def noX (C : Addr) (n : Int) : EX := ⟨C, ["number"], [.int n]⟩
theorem numLen {n : Int} (h : B 100 n) : (("no such number: " : Str)).length + (Str.ofString (toString n)).length ≤ sizeLine := by
  have h1 := nS_33 h
  have h2 : (("no such number: " : Str)).length = 16 := by decide +kernel
  rw [h2]
  have h3 : (Str.ofString (toString n)).length ≤ 32 := h1
  exact le_line (by omega)
section
variable {P : Program} {w : World} {K : PySem.W.Frag} {mg : Str → Option Value} {base : Heap} {st : Stmt} {C C0 : Addr} {k : Nat}
theorem no_init {fI : Addr} {fd : FuncData} {p1 p2 p3 p4 p5 p6 p7 p8 p9 p10 p11 p12 p13 p14 : Pos} {jj : Nat} (F : Fun K "__init__" "NoNumber.__init__" st fI fd) (S : FnScope ["self", "number"] ["self", "number"] (defScope st))
    (hB : defBody st = [.Expr (.Call (.Attribute (.Name "LaidError" p1) "__init__" p2) [.Name "self" p3, .BinOp (.Constant (.str "no such number: ") jj p4) .Add (.Call (.Name "str" p5) [.Name "number" p6] [] p7) p8] [] p9) p10, .Assign [.Attribute (.Name "self" p11) "number" p12] (.Name "number" p13) p14])
    (g1 : (defScope st).names.lookup ("LaidError" : Str) = some .globalImplicit) (g2 : (defScope st).names.lookup ("str" : Str) = some .globalImplicit) (u1 : visB (defScope st) "self" = true) (u2 : visB (defScope st) "number" = true)
    (hs1 : ∀ env, swapsWith (.Call (.Attribute (.Name "LaidError" p1) "__init__" p2) [.Name "self" p3, .BinOp (.Constant (.str "no such number: ") jj p4) .Add (.Call (.Name "str" p5) [.Name "number" p6] [] p7) p8] [] p9) none p10.line env = pure false)
    (hs2 : ∀ env, swapsWith (.Name "number" p13) (some (.Attribute (.Name "self" p11) "number" p12)) p14.line env = pure false)
    (hc : ∀ env, ∃ pl, eval (.Call (.Attribute (.Name "LaidError" p1) "__init__" p2) [.Name "self" p3, .BinOp (.Constant (.str "no such number: ") jj p4) .Add (.Call (.Name "str" p5) [.Name "number" p6] [] p7) p8] [] p9) env = (do
      let ov ← eval (.Name "LaidError" p1) env
      standAt p2.atName
      let (f, first) ← holding [ov] (getMethod ov "__init__" pl)
      callWith p9 f first (backTo p9 (starEach [.Name "self" p3, .BinOp (.Constant (.str "no such number: ") jj p4) .Add (.Call (.Name "str" p5) [.Name "number" p6] [] p7) p8] env)) (backToKw p9 (keywordEach [] env))))
    (N : NoTxt K mg st C C0) : FnOk P w K mg base (L2.CX P w) (k + 1) fI fd ["self", "number"] (spNo C) := by
  obtain ⟨oc, od, kV, doc, pm, an, cdv, ct, osl, rfl, lk, hcd⟩ := F.ex
  refine fn_of (N := ["self", "number"]) lk hcd S (fun vs H Q E h => ?_) fun A' outer s H vs Q E hr h => ?_
  · obtain ⟨a, n, rfl, _⟩ := h
    rfl
  obtain ⟨a, n, rfl, bn, ea, hQ⟩ := h
  have po : PassesOwn (model (cxOf (L2.CX P w) P w K mg base ["self", "number"] "NoNumber.__init__" (defScope st) fI cdv A' outer s H E).prog (cxOf (L2.CX P w) P w K mg base ["self", "number"] "NoNumber.__init__" (defScope st) fI cdv A' outer s H E).w) (cxOf (L2.CX P w) P w K mg base ["self", "number"] "NoNumber.__init__" (defScope st) fI cdv A' outer s H E).A (cxOf (L2.CX P w) P w K mg base ["self", "number"] "NoNumber.__init__" (defScope st) fI cdv A' outer s H E).env (cxOf (L2.CX P w) P w K mg base ["self", "number"] "NoNumber.__init__" (defScope st) fI cdv A' outer s H E).xe := passes_of rfl
  generalize hX : cxOf (L2.CX P w) P w K mg base ["self", "number"] "NoNumber.__init__" (defScope st) fI cdv A' outer s H E = X at po
  have cx : CxF X P w K mg base ["self", "number"] (defScope st) k := by
    subst hX
    exact { eP := rfl, ew := rfl, eK := rfl, emg := rfl, eb := rfl, eN := rfl, vis := fun y hy => vis_of hy, sto := fun y hy => ⟨loc_of hy, .inl rfl⟩, loc := fun y hy => hy, gl := fun y hy => hy, calm := rfl, room := hr, esc := rfl, po := po, nd := S.nd, kind := S.kind, stk := rfl, frm := rfl }
  obtain ⟨pl, hpl⟩ := hc X.env
  have v0 : ∀ {pos : Pos}, PE X (.Name "self" pos) (tVar 0) := cx.var 0 rfl u1
  have v1 : ∀ {pos : Pos}, PE X (.Name "number" pos) (tVar 1) := cx.var 1 rfl u2
  have d2 : DE X (.BinOp (.Constant (.str "no such number: ") jj p4) .Add (.Call (.Name "str" p5) [.Name "number" p6] [] p7) p8) [none, some (.int n)] [] (.str ("no such number: " ++ Str.ofString (toString n))) [] :=
    DE.bin DE.str (DE.callTy cx.toCxD g2 N.mS boot_str (DA.cons (DE.pe v1 rfl) DA.nil) (ca_str (B.log bn))) (oa_addS (numLen bn))
  refine ⟨_, by rw [hB]; exact pss_cons (ps_expr (pe_clsinit (cx.gl _ g1) (by rw [cx.emg]; exact N.mB) (by rw [cx.eK]; exact N.gS) (by rw [cx.eK]; exact N.rd) (by rw [cx.eK]; exact N.fc) (pa_cons v0 (pa_cons (pe_w _) pa_nil)) (by decide) hpl) (hs1 _)) (pss_cons (ps_ost v0 v1 (hs2 _)) pss_nil), ?_⟩
  refine ⟨.ref a, rfl, ?_⟩
  have R0 : Rst ⟨0, []⟩ X.K H (start ["self", "number"] [.ref a, .int n]) [none, some (.int n)] [] :=
    ⟨⟨List.nodup_nil, rfl, fun k a m h _ => by simp [AD.at] at h, fun i a h _ => absurd h (Nat.not_lt_zero _), fun a h => nomatch h⟩, ⟨rfl, fun i p e => by
      match i, e with
      | 1, e =>
        cases e
        exact ⟨.int n, rfl, Rp.int' _⟩⟩⟩
  refine d2 ⟨0, []⟩ _ H _ R0 fun ad2 v H1 s1 m1 r1 => ?_
  have kp : ∀ b o, H b = some o → H1 b = some o := fun b o q => s1.keep b o q (fun z => nomatch z)
  have rd1 := r1.str_inv
  subst rd1
  refine ⟨a, C, [_], rfl, Nat.le_of_ble_eq_true rfl, by rw [cx.eK]; exact N.T, kp _ _ ea, ?_⟩
  refine ⟨.int n, rfl, .ref a, rfl, a, C, rfl, by rw [cx.eK]; exact N.T, by rw [cx.eK]; exact N.no, .inl ⟨kp _ _ ea, fun dx h1 h2 => ?_⟩⟩
  exact hQ H1 dx kp h1 h2
end
section
variable {X : Cx} {P : Program} {w : World} {K : PySem.W.Frag} {mg : Str → Option Value} {base : Heap} {N : List Str} {sc : Scope} {k j : Nat} {ρ ρ' : Env} {μ μ1 μ2 μ' : Mem} {p q r : PV} {e a b : Expr} {pos cp p2 p3 : Pos} {D : AEnds} {st : Stmt} {C C0 : Addr} {n : Int} {y : Str}
/-! ### isinstance of it, its field -/
def rIsX (K : PySem.W.Frag) : List V → Hp → VK → Prop := fun xs H Q => ∃ (a C : Addr) (d : Option Addr) (kv : List (Str × V)) (c : V) (cv : Value) (b : Bool), xs = [.ref a, c] ∧ H a = some (exH a (.ref C) d) ∧ (∀ dd, d = some dd → H dd = some (.xd kv)) ∧
  XfC K C ∧ (PySem.W.findIn K (.ref C) "__class__" = some (some (.builtin "object.__class__")) ∧ PySem.W.specialIn K (.builtin "object.__class__") "__get__" = some (some (.builtin "getset_descriptor.__get__")) ∧ PySem.W.takesIn K (.builtin "object.__class__") = some true ∧ PySem.W.mroIn K C (.type "object") = some true) ∧
  (∀ u, RelV c u → u = cv) ∧ PySem.W.kitOne K (.ref C) cv = some b ∧ Q (.bl b) H
theorem inst_of {σ : L2.St} {H : Hp} {s : Shared} {pins : List (Addr × Obj)} {a C : Addr} {d : Option Addr} {kv : List (Str × V)} (I : Inv X pins σ H s) (h1 : H a = some (exH a (.ref C) d)) (h2 : ∀ dd, d = some dd → H dd = some (.xd kv)) :
    ∃ oe od, PySem.W.InstAt s.heap a oe C od ∧ (∀ dd, d = some dd → ∃ (o : Obj) (mA : Str → Option Value), od = some o ∧ (∀ f, RelO (kv.lookup f) (mA f)) ∧ ∀ name, PySem.W.lookIn name o = some (mA name)) := by
  obtain ⟨⟨oe, e1, z, vs, e2⟩, _⟩ := (show ObjOk X.prog X.w H s.heap a (exH a (.ref C) d) from I.hok a _ h1)
  cases d with
  | none => exact ⟨oe, none, ⟨e1, z.1, by unfold PySem.W.notCls; rw [e2] <;> rfl, by rw [z.2] <;> trivial⟩, fun dd h => nomatch h⟩
  | some dd =>
    have hx : ObjOk X.prog X.w H s.heap dd (.xd kv) := I.hok dd _ (h2 dd rfl)
    obtain ⟨mA, hns, hr⟩ := hx
    obtain ⟨od, ho, hl⟩ := lookIn_ns hns
    exact ⟨oe, some od, ⟨e1, z.1, by unfold PySem.W.notCls; rw [e2] <;> rfl, by rw [z.2]; exact ho⟩, fun d2 h => ⟨od, mA, rfl, hr, hl⟩⟩
theorem call_isX : CallR X (.builtin "isinstance") (rIsX X.K) := by
  intro pins s σ H xs us Q I r h
  obtain ⟨a, C, d, kv, c, cv, b, rfl, h1, h2, xf, ⟨ha, hn, ht, hm⟩, hcv, e, q⟩ := h
  cases r with
  | cons rx rr =>
    cases rr with
    | cons rt rr =>
      cases rr
      cases rx
      have ec := hcv _ rt
      subst ec
      obtain ⟨oe, od, J, _⟩ := inst_of I h1 h2
      have hcl : (PySem.W.clsIn X.K C).isSome = true := by
        obtain ⟨cd, hc, _⟩ := PySem.W.any_some xf.hdC
        rw [hc]; rfl
      exact PySem.W.kia_one (PySem.W.kitx_exc hcl xf.ga xf.gg xf.exC ha hn ht hm) I.kIn J e (fun z => nomatch z) fun tk => ⟨.bl b, H, I.kept (t' := tk) fun _ _ z => z, rfl, q⟩
theorem Rp.exc_inv {ad : AD} {H : Hp} {fs : List Str} {vs : List PV} {v : V} (h : Rp ad K H (.exc C fs vs) v) : ∃ a d ws, v = .ref a ∧ H a = some (exH a (.ref C) d) ∧ XdAt ad H d (fs.zip ws) ∧ fs.length = ws.length ∧ RpL ad K H vs ws := by
  unfold Rp at h
  obtain ⟨a, d, ws, e, ⟨h1, _⟩, h2, h3, h4⟩ := h
  exact ⟨a, d, ws, e, h1, h2, h3, h4⟩
def tXg (K : PySem.W.Frag) (f : Str) (te : TE) : TE := fun σ H Q => te σ H fun x H1 => ∃ (a C dd : Addr) (kv : List (Str × V)) (v : V), x = .ref a ∧ H1 a = some (exH a (.ref C) (some dd)) ∧ H1 dd = some (.xd kv) ∧ XfC K C ∧ PySem.W.findIn K (.ref C) f = some none ∧ kv.lookup f = some v ∧ Q v H1
theorem pe_xg {te : TE} {f : Str} (he : PE X e te) (hb : attributeBase e f X.env (eval e X.env) = eval e X.env) : PE X (.Attribute e f pos) (tXg X.K f te) := by
  refine ⟨fun pins s σ H Q I h => ?_⟩
  refine attr_of hb (thn (he.run pins s σ H _ I h) fun u s1 hh => ?_)
  obtain ⟨x, H1, I1, rx, a, C, dd, kv, v, ex, h1, h2, xf, hno, hl, q⟩ := hh
  subst ex
  obtain rfl : u = Value.ref a := rx
  obtain ⟨oe, od, J, hd⟩ := inst_of I1 h1 fun d2 hd2 => by cases hd2; exact h2
  obtain ⟨o, mA, rfl, hr, hlk⟩ := hd dd rfl
  obtain ⟨u, hu, ru⟩ := RelO.some_of (v := v) (o := mA f) (by rw [← hl]; exact hr f)
  exact PySem.HandSPX.exc_get I1.kIn J xf.ga xf.gg xf.exC (PySem.W.findObj_own xf.hdC hno rfl (by rw [hlk, hu])) (handed_of ru) ⟨v, H1, I1.tok _, ru, q⟩
/-- e.number -/
theorem DE.xnum (cx : CxD X P w K mg base N sc k) (T : NoTxt K mg st C C0) (ha : DE X e ρ μ (excP (noX C n)) μ1) (hb : attributeBase e "number" X.env (eval e X.env) = eval e X.env := by rfl) : DE X (.Attribute e "number" pos) ρ μ (.int n) μ1 := fun ad σ H Q R f => by
  refine wE.of (pe_xg (pe_w e) hb) ?_
  refine ha ad σ H _ R fun ad1 v H1 s1 m1 r1 => ?_
  rw [cx.eK] at r1 ⊢
  obtain ⟨a', d, ws, e1, h1, h2, h3, h4⟩ := Rp.exc_inv r1
  subst e1
  have ev := h4.one_int
  subst ev
  cases d with
  | none => cases h2
  | some dd => exact ⟨a', C, dd, _, .int n, rfl, h1, h2.1, T.xf, T.no, rfl, f ad1 _ H1 s1 m1 (Rp.int' _)⟩
theorem kit_self {K : PySem.W.Frag} {C : Addr} : PySem.W.kitOne K (.ref C) (.ref C) = some true := by
  unfold PySem.W.kitOne
  rw [if_pos (by simp)]
theorem kit_ref {K : PySem.W.Frag} {C C2 : Addr} {b : Bool} (hne : (Value.ref C == Value.ref C2) = false) (h1 : PySem.W.hasDictIn K C2 = true) (h2 : PySem.W.typeIn K (.ref C2) = some (.type "type")) (h3 : PySem.W.subIn K (.ref C) (.ref C2) = some b) : PySem.W.kitOne K (.ref C) (.ref C2) = some b := by
  obtain ⟨cd, hc, _⟩ := PySem.W.any_some h1
  unfold PySem.W.kitOne
  rw [hne, if_neg (by decide)]
  show (if ((PySem.W.clsIn K C2).isSome && PySem.W.typeIn K (.ref C2) == some (.type "type")) = true then PySem.W.subIn K (.ref C) (.ref C2) else none) = some b
  rw [hc, h2, if_pos (by rfl)]
  exact h3
theorem kit_blt {K : PySem.W.Frag} {C : Addr} {ty : String} {b : Bool} (h1 : PySem.W.kitMeta ty = true) (h3 : PySem.W.subIn K (.ref C) (.type ty) = some b) : PySem.W.kitOne K (.ref C) (.type ty) = some b := by
  unfold PySem.W.kitOne
  rw [if_neg (by simp)]
  show (if PySem.W.kitMeta ty = true then PySem.W.subIn K (.ref C) (.type ty) else none) = some b
  rw [if_pos h1]
  exact h3
end
end L3

namespace L3
open PySem PySem.Spec L2 PyProof.Rows
/-! ### list.count of truths -/
def rCntB (K : PySem.W.Frag) : V → List V → Hp → VK → Prop := fun x xs H Q => ∃ (p : Addr) (bs : List Bool) (k : Bool), x = .ref p ∧ xs = [.bl k] ∧ SqL K H p (bs.map V.bl) ∧ Q (.int (bs.count k : Nat)) H
theorem bools_of : ∀ {bs : List Bool} {us : List Value}, Vals (bs.map V.bl) us → us = bs.map Value.bool
  | [], _, h => by cases h; rfl
  | b :: bs, _, h => by
    rw [List.map_cons] at h
    cases h with
    | cons r t =>
      rw [bools_of t, List.map_cons, show _ = Value.bool b from r]
section
variable {X : Cx} {μ : Mem} {p : PV}
theorem mt_countB : MtR X "list.count" (rCntB X.K) := by
  intro pins s σ H x xs v us Q I rx rxs h
  obtain ⟨p, bs, k, rfl, rfl, hs, q⟩ := h
  cases rx
  obtain ⟨u, rfl, ru⟩ := rxs.one
  obtain rfl : u = Value.bool k := ru
  obtain ⟨its, rv, ⟨⟨cls, dd, data, sl⟩, n, ho, hc, hdn, hd⟩, hlen⟩ := I.list hs
  simp only at hc hd
  subst hc hd
  have hi := bools_of rv
  subst hi
  refine call_meets PySem.F.slot_list_count ⟨_, ho, rfl⟩ PySem.F.entry_list_count (PySem.F.args_list_count_2 _ _)
    (SeqAt.list_countAt p (bs.map Value.bool).toArray n dd sl (.bool k) (isBoolOf k)) ⟨ho, fun y hy => ?_, ?_⟩
  · obtain ⟨b, _, rfl⟩ := List.mem_map.mp (show y ∈ bs.map Value.bool by simpa using hy)
    exact SeqAt.EqAt.bool_bool b k
  have ec : (bs.map Value.bool).toArray.toList.countP (isBoolOf k) = bs.count k := by
    show (bs.map Value.bool).countP (isBoolOf k) = _
    rw [List.countP_map]
    rfl
  refine ⟨.int (bs.count k : Nat), H, I.tok _, ⟨s.toks, ?_⟩, q⟩
  show Value.int (((bs.map Value.bool).toArray.toList.countP (isBoolOf k) : Nat) : Int) s.toks = Value.int ((bs.count k : Nat) : Int) s.toks
  rw [ec]
theorem RpL.bls {K : PySem.W.Frag} {ad : AD} {H : Hp} : ∀ {bs : List Bool} {vs : List V}, RpL ad K H (bs.map PV.bl) vs → vs = bs.map V.bl
  | [], vs, r => by unfold List.map RpL at r; exact r
  | n :: ns, vs, r => by
    rw [List.map_cons] at r
    unfold RpL at r
    obtain ⟨v, w, e1, r1, r2⟩ := r
    rw [e1, r1.bl_inv, RpL.bls r2, List.map_cons]
theorem ma_countB {bs : List Bool} {k : Bool} (h : asL μ p = some (bs.map PV.bl)) : MtA X "list.count" p [.bl k] μ (.int ((bs.count k : Nat) : Int)) :=
  ⟨_, mt_countB, fun ad H v vs Q m r rs f => by
    obtain ⟨u, e, ru⟩ := rs.inv1
    obtain ⟨l, ys, e1, h1, r1⟩ := r.asL_inv h m
    rw [e, ru.bl_inv, e1]
    rw [r1.bls] at h1
    exact ⟨l, bs, k, rfl, rfl, h1, f [] _ H Stp.refl (by rwa [AD.append_nil]) (Rp.int' _)⟩⟩
end
/-! ### ways of the law: headings, legs -/
theorem lookD_hit {k : Key} {v : PV} {ks : List Key} {vs : List PV} : lookD (k :: ks) (v :: vs) k = some v := by
  show (if k = k then some v else lookD ks vs k) = some v
  rw [if_pos rfl]
theorem lookD_miss {k q : Key} {v : PV} {ks : List Key} {vs : List PV} (h : k ≠ q) : lookD (k :: ks) (v :: vs) q = lookD ks vs q := by
  show (if k = q then some v else lookD ks vs q) = lookD ks vs q
  rw [if_neg h]
theorem nil_shaped {μ : Mem} : SeqAt.shaped (toD (vw μ (.lst []))) = true := by
  show SeqAt.shaped (.list []) = true
  unfold SeqAt.shaped
  simp [PyData.canLay0, PyData.canLayAll0, PyData.depth, PyData.depthAll]
def nmP (n : Int) : PV := .tup [.str "number", .int n]
end L3
namespace L3
open PySem PySem.Spec L2
def clsBody : Stmt → List Stmt
  | .ClassDef (body := b) .. => b
  | _ => []
section
variable {X : Cx} {P : Program} {w : World} {K : PySem.W.Frag} {mg : Str → Option Value} {base : Heap} {N : List Str} {sc : Scope} {k j : Nat} {ρ ρ' : Env} {μ μ1 μ2 μ' : Mem} {a b : Expr} {pos cp : Pos} {st : Stmt} {C C0 : Addr} {n : Int} {y : Str}
end
end L3
namespace L3
open PySem PySem.Spec L2
end L3

namespace L3
open PySem PySem.Spec L2
end L3
namespace L3
open PySem PySem.Spec L2
section
variable {X : Cx} {ρ : Env} {μ : Mem} {p1 p2 p3 p4 q1 q2 q3 q4 q5 q6 q7 q8 q9 q10 t1 t2 t3 t4 pos : Pos} {j1 j2 j3 j4 i1 i2 i3 i4 i5 i6 i7 i8 n1 n2 n3 n4 : Nat}
theorem DE.dispE {e : Expr} {keys : List (Option Expr)} {values : List Expr} {ks : List Key} {ps : List PV} {pos : Pos} (he : e = .Dict keys values pos) (h : DPs X pos keys values ρ μ ks ps μ) (hn : ks.Nodup) (hl : ks.length ≤ 15) (hall : keys.all (·.isSome) = true) (hkl : keys.length = values.length) (h0 : keys ≠ []) (h15 : keys.length ≤ 15) : DE X e ρ μ (.dct ks ps) μ := by
  subst he
  exact DE.disp h hn hl hall hkl h0 h15
end
end L3

namespace L3
open PySem PySem.Spec L2
section
variable {X : Cx} {μ : Mem} {ns ms : List Int}
end
/-! ### corners by turning -/
theorem sq2 (z : Int) : 2 * z * (2 * z) = 4 * (z * z) := by rw [Int.mul_assoc, Int.mul_left_comm z 2 z, ← Int.mul_assoc]; rfl
/-! ### the first corners -/
end L3
namespace L3
open PySem PySem.Spec L2
end L3
namespace L3
end L3

namespace L3
open PySem PySem.Spec L2
/-! ### the number of a place by the law's legs -/
def ixL (y : Int) : Int := if 0 < y then 2 * y - 1 else 0 - 2 * y
/-! ### the numbers beside -/
end L3
namespace L3
end L3

namespace L3
open PySem PySem.Spec L2
/-! ### laid step by step -/
def dirR (r : Int) : Int × Int := if r % 4 = 0 then (1, 0) else if r % 4 = 1 then (0, 1) else if r % 4 = 2 then (-1, 0) else (0, -1)
theorem plN_zero (h : Fin 4) (t : Bool) : plN h t 0 = (0, 0) := by
  have e : nuF ((0, 0) : Int × Int).1 ((0, 0) : Int × Int).2 = 0 := by decide
  rw [plN_pl e]
  revert h t; decide
end L3

namespace L3
end L3

namespace L3
open PySem PySem.Spec L2
/-! ### the legs as the laws of the deck B reckon them, arms (1, 1) -/
end L3

namespace L3
open PySem PySem.Spec L2
section
variable {ad : AD} {K : PySem.W.Frag} {H : Hp}
theorem RpL.rep {ps : List PV} {vs : List V} (r : RpL ad K H ps vs) : ∀ n : Nat, RpL ad K H (List.replicate n ps).flatten (List.replicate n vs).flatten
  | 0 => RpL.nil
  | n + 1 => by
    rw [List.replicate_succ, List.replicate_succ, List.flatten_cons, List.flatten_cons]
    exact r.append (RpL.rep r n)
end
section
variable {X : Cx} {P : Program} {w : World} {K : PySem.W.Frag} {mg : Str → Option Value} {base : Heap} {N : List Str} {sc : Scope} {k j : Nat} {ρ ρ' : Env} {μ μ1 μ2 μ' : Mem} {p q : PV} {a b : Expr} {pos cp : Pos} {st : Stmt} {C C0 : Addr} {n : Int} {y : Str}
/-- list * int -/
theorem oa_rep {xs : List PV} {j : Int} (h1 : asK μ p = some xs) (h0 : -(2 ^ 63) ≤ j) (h2 : j < 2 ^ 63) (h : xs.length * j.toNat ≤ sizeLine) : OpA X (binaryOp .Mult) p (.int j) μ (.lst (List.replicate j.toNat xs).flatten) :=
  ⟨_, op_rep, fun ad H vx vy Q m rx ry f => by
    obtain ⟨a, vs, e1, hH, r1⟩ := rx.asK_inv h1 m
    refine ⟨a, j, vs, e1, ry.int_inv, hH, h0, h2, by rw [← r1.length]; exact h, fun l hl => ?_⟩
    have s2 : Stp ad [] H (upd H l (.lst (List.replicate j.toNat vs).flatten)) := Stp.data hl
    refine f [] _ _ s2 (by rw [AD.append_nil]; exact m.data hl) ?_
    rw [AD.append_nil]
    unfold Rp
    refine ⟨l, _, rfl, ⟨upd_same, m.notIn hl⟩, ?_⟩
    have := RpL.mono (K := X.K) s2 _ _ (r1.rep j.toNat)
    rwa [AD.append_nil] at this⟩
/-! ### isinstance(e, (C1, C2, C3)) -/
end
/-! ### {'l': a, 'r': b} by the turn -/
def lrK : List Key := [.inr ("l" : Str), .inr ("r" : Str)]
theorem lr_at (p q : PV) (t : Bool) : lookD lrK [p, q] (.inr (tnS t)) = some (if t = true then q else p) := by
  have h1 : tnS false = ("l" : Str) := by decide +kernel
  have h2 : tnS true = ("r" : Str) := by decide +kernel
  cases t
  · rw [h1]; exact lookD_hit
  · rw [h2]
    unfold lrK
    rw [lookD_miss (by decide +kernel)]
    exact lookD_hit
section
variable {X : Cx} {P : Program} {w : World} {K : PySem.W.Frag} {mg : Str → Option Value} {base : Heap} {N : List Str} {sc : Scope} {k : Nat} {ρ : Env} {μ : Mem} {p q : PV} {e a b va vb : Expr} {pos p1 p2 pp : Pos} {j1 j2 : Nat} {t : Bool}
theorem DE.lrE (he : e = .Dict [some (.Constant (.str "l") j1 p1), some (.Constant (.str "r") j2 p2)] [va, vb] pos) (h1 : DE X va ρ μ p μ) (h2 : DE X vb ρ μ q μ) : DE X e ρ μ (.dct lrK [p, q]) μ :=
  DE.dispE (ks := lrK) (ps := [p, q]) he (DPs.cons (kk := .inr ("l" : Str)) DE.str h1 (DPs.cons (kk := .inr ("r" : Str)) DE.str h2 DPs.nil)) (by decide +kernel) (Nat.le_of_ble_eq_true rfl) rfl rfl (List.cons_ne_nil _ _) (Nat.le_of_ble_eq_true rfl)
theorem DE.lr (cx : CxD X P w K mg base N sc k) (h1 : DE X va ρ μ p μ) (h2 : DE X vb ρ μ q μ) (hi : DE X b ρ μ (.str (tnS t)) μ) (hs : NoSl b := by exact fun _ _ => rfl) :
    DE X (.Subscript (.Dict [some (.Constant (.str "l") j1 p1), some (.Constant (.str "r") j2 p2)] [va, vb] pos) b pp) ρ μ (if t = true then q else p) μ := by
  generalize he : Expr.Dict [some (.Constant (.str "l") j1 p1), some (.Constant (.str "r") j2 p2)] [va, vb] pos = e
  exact DE.dget (kk := .inr (tnS t)) cx (DE.lrE he.symm h1 h2) hi (lr_at p q t) hs
end
/-! ### runs told -/
def hdR (h : Fin 4) (t : Bool) (r : Int) : Fin 4 := ⟨((((h.val : Nat) : Int) + r * (if t = true then -1 else 1)) % 4).toNat, by omega⟩
theorem hdR_val (h : Fin 4) (t : Bool) (r : Int) : (((h.val : Nat) : Int) + r * (if t = true then -1 else 1)) % 4 = (((hdR h t r).val : Nat) : Int) := by
  show _ = (((((((h.val : Nat) : Int) + r * (if t = true then -1 else 1)) % 4).toNat : Nat)) : Int)
  omega
/-! ### _law_same of what is the same -/
end L3

namespace L3
open PySem PySem.Spec L2
/-! ### spirals with arms: so many whole runs' steps, the place of a number -/
def csA (a b r : Int) : Int := (r + 1) / 2 * a + (r + 1) / 2 * ((r + 1) / 2 - 1) / 2 + r / 2 * b + r / 2 * (r / 2 - 1) / 2
theorem r2 (r : Int) : ∃ m, r = 2 * m ∨ r = 2 * m + 1 := ⟨r / 2, by omega⟩
theorem dir0 {r : Int} (e : r % 4 = 0) : dirR r = (1, 0) := by unfold dirR; rw [if_pos e]
theorem dir1 {r : Int} (e : r % 4 = 1) : dirR r = (0, 1) := by unfold dirR; rw [if_neg (by omega), if_pos e]
theorem dir2 {r : Int} (e : r % 4 = 2) : dirR r = (-1, 0) := by unfold dirR; rw [if_neg (by omega), if_neg (by omega), if_pos e]
theorem dir3 {r : Int} (e : r % 4 = 3) : dirR r = (0, -1) := by unfold dirR; rw [if_neg (by omega), if_neg (by omega), if_neg (by omega)]
def dT (h : Fin 4) (t : Bool) (r : Int) : Int × Int := plW h t (dirR r)
end L3

namespace L3
open PySem PySem.Spec L2
section
variable {X : Cx} {μ : Mem} {p : PV}
end
/-! ### turned to the right -/
/-! ### by streets -/
end L3

namespace L3
open PySem PySem.Spec L2
/-! ### place_by_arms: by whole rounds, then side by side -/
section
variable {X : Cx} {μ : Mem}
end
end L3

namespace L3
open PySem PySem.Spec L2 PyProof.Rows
/-! ### dicts with tuples as keys: objects of the store -/
section
variable {K : PySem.W.Frag} {ad : AD} {H : Hp}
end
section
variable {X : Cx} {P : Program} {w : World} {K : PySem.W.Frag} {mg : Str → Option Value} {base : Heap} {N : List Str} {sc : Scope} {k j : Nat} {ρ ρ' : Env} {μ μ1 μ2 μ' : Mem} {p q r : PV} {e o a b : Expr} {pos cp : Pos} {st : Stmt} {D : AEnds} {n : Nat}
end
section
variable {X : Cx} {P : Program} {w : World} {K : PySem.W.Frag} {mg : Str → Option Value} {base : Heap} {N : List Str} {sc : Scope} {k j : Nat} {x : Str} {A : ASp} {ρ : Env} {μ μ1 μ2 : Mem} {p : PV} {a b : Expr} {pos cp : Pos} {z : EX}
theorem WT.mono {Qa Qb : Bool → Mem → Prop} (h : WT X a ρ μ Qa) (q : ∀ b m, Qa b m → Qb b m) : WT X a ρ μ Qb := fun ad σ H Q R f => h ad σ H Q R fun ad2 b H' μ' s m z => f ad2 b H' μ' s m (q b μ' z)
end
end L3

namespace L3
open PySem PySem.Spec L2
/-! ### one spiral's numbers in another one -/
end L3

namespace L3
open PySem PySem.Spec L2
/-! ### number_by_arms: by the four sides of a round -/
def no1 (a b x y : Int) : Option Int := if 0 - x - 1 ≥ 0 ∧ 0 - (0 - x - 1) - 1 ≤ y ∧ y ≤ b + (0 - x - 1) then some (2 * a + b + 6 * (0 - x - 1) + 1 + b + (0 - x - 1) - y + csA a b (4 * (0 - x - 1))) else none
def no2 (a b x y : Int) : Option Int := if y - b ≥ 0 ∧ 0 - (y - b) - 1 ≤ x ∧ x ≤ a + (y - b) then some (a + b + 4 * (y - b) + a + (y - b) - x + csA a b (4 * (y - b))) else no1 a b x y
def no3 (a b x y : Int) : Option Int := if x - a ≥ 0 ∧ 0 - (x - a) ≤ y ∧ y ≤ b + (x - a) then some (a + 3 * (x - a) + y + csA a b (4 * (x - a))) else no2 a b x y
def noA (a b x y : Int) : Option Int := if 0 - y ≥ 0 ∧ 0 - (0 - y) ≤ x ∧ x ≤ a + (0 - y) then some (x + (0 - y) + csA a b (4 * (0 - y))) else no3 a b x y
/-- what stands at a place of any spiral -/
def noT (h : Fin 4) (t : Bool) (a b : Int) (p : Int × Int) : Option Int := noA a b (unW h t p).1 (unW h t p).2
end L3

namespace L3
open PySem PySem.Spec L2
/-! ### spirals with arms as a whole -/
end L3

namespace L3
open PySem PySem.Spec L2
section
variable {X : Cx} {ρ : Env} {μ μ1 : Mem} {pos : Pos}
end
end L3

namespace L3
open PySem PySem.Spec L2
section
variable {X : Cx} {P : Program} {w : World} {K : PySem.W.Frag} {mg : Str → Option Value} {base : Heap} {N : List Str} {sc : Scope} {k : Nat} {ρ : Env} {μ μ1 μ2 : Mem} {p : PV} {o e : Expr} {apos cp : Pos} {n : Nat} {s : Int}
end
/-! ### by the four runs on whose lines a place may be -/
end L3

namespace L3
open PySem PySem.Spec L2 PyProof.Rows
/-! ### ranges of any whole numbers -/
/-- the long iterator at its turn j -/
def LgAt (lo : Int) (n : Nat) (it : Addr) (j : Nat) (h : Heap) : Prop := IsLongIter h it (lo + (j : Nat) * 1) ((n : Int) - (j : Nat)) 1
theorem LgAt.turn {P : Program} {w : World} {K : PySem.W.Frag} {tg : Expr} (lo : Int) (n : Nat) (it : Addr) : Turn P w K tg (Itr lo n) [it] it (LgAt lo n it) where
  mem := List.mem_singleton.mpr rfl
  keep := fun j h h2 q k => k it (List.mem_singleton.mpr rfl) _ q
  self := fun A j s Q E q z => wpAny_pyIter_longiter q z
  obj := fun j h q b hb => by
    cases List.mem_singleton.mp hb
    exact ⟨_, q, fun v z => nomatch (show Data.fields _ = Data.cell v from z)⟩
  item := by
    intro X e1 e2 e3 hcalm j pn s τ G E J hfree q hlt
    subst e1
    subst e2
    subst e3
    obtain ⟨g0, g1, g2, g3, g4, g5⟩ := hfree it (List.mem_singleton.mpr rfl)
    refine (Walks.longrange (prog := X.prog) (w := X.w) (J.ok.hd hcalm) it lo 1 n).item j s _ _ hlt q fun v h2 t2 hv q2 kp => ?_
    obtain ⟨t, ev⟩ := hv
    have J2 : Inv X pn τ G { s with heap := h2, toks := t2 } := J.turned (fun b o nb e => kp b o (fun z => nb (List.mem_singleton.mp z)) e) g0 g1 g3 g4 g5
    have hnum : RelV (.int (lo + (j : Nat))) v := ⟨t, by rw [ev, Int.mul_one]⟩
    refine ⟨v, by rw [ev], ?_⟩
    exact go_of (s := { s with heap := h2, toks := t2 }) (n := "longrange_iterator") q2 rfl rfl (by decide) ⟨.int (lo + (j : Nat)), G, J2, hnum, ⟨rfl, rfl⟩, q2, fun b nb => (hfree b nb).1⟩
  done := by
    intro X e1 e2 e3 hcalm j pn s τ G E J hfree q hstop
    subst e1
    subst e2
    subst e3
    obtain ⟨g0, g1, g2, g3, g4, g5⟩ := hfree it (List.mem_singleton.mpr rfl)
    have hle : n ≤ j := hstop
    refine wpAny_pyNext_long_end (J.ok.hd hcalm) q (by omega) fun h2 ext => ⟨rfl, ?_⟩
    exact J.turned (t' := s.toks) (fun b o nb e => ext b o nb e) g0 g1 g3 g4 g5
section
variable {X : Cx} {tg : Expr}
end
section
variable {X : Cx} {ρ : Env} {μ μ1 μ2 : Mem} {a b tg : Expr} {np cp : Pos}
end
end L3

namespace L3
open PySem PySem.Spec L2
/-! ### the same places in two spirals, from any number on -/
end L3

namespace L3
open PySem PySem.Spec L2
section
variable {X : Cx} {P : Program} {w : World} {K : PySem.W.Frag} {mg : Str → Option Value} {base : Heap} {N : List Str} {sc : Scope} {k : Nat} {ρ : Env} {μ μ1 : Mem} {p q : PV} {e : Expr} {pos cp : Pos} {n : Nat}
end
end L3

namespace L3
open PySem PySem.Spec L2
/-! ### places just so far, ring by ring -/
end L3

namespace L3
open PySem PySem.Spec L2
/-! ### how many of the first so many are just so far -/
/-! ### the law's lines -/
end L3
namespace L3
open PySem PySem.Spec L2
end L3

namespace L3
open PySem PySem.Spec L2
/-! ### counted by streets: what the law lays, its lines, what is due -/
end L3
namespace L3
end L3

namespace L3
open PySem PySem.Spec L2
/-! ### whole streets: one more, the first so far, other spirals, all together -/
end L3
namespace L3
end L3

namespace L3
open PySem PySem.Spec L2 PyProof.Rows
/-! ### zip of a list and a tuple: two feeds, each of its own kind -/
section
variable {P : Program} {W : World} {B : Around} {F : Value → Shared → Prop} {q : Shared} {z T1 T2 i1 i2 l1 l2 : Addr} {k : Nat} {xs ys : Array Value} {J1 J2 : Heap → Nat → Prop} {x y a b : Value}
end
end L3

namespace L3
open PySem PySem.Spec L2 PyProof.Rows
section
variable {P : Program} {W : World} {B : Around} {F : Value → Shared → Prop} {q : Shared} {z T1 T2 i1 i2 l1 l2 : Addr} {k : Nat} {xs ys : Array Value} {J1 J2 : Heap → Nat → Prop} {x y a b : Value}
end
section
variable {X : Cx} {ad : AD} {σ : L2.St} {H H' : Hp} {ρ ρ' : Env} {μ μ1 μ2 μ' : Mem} {p q r : PV} {e e2 a b c tg : Expr} {pos cp : Pos} {k : Nat}
  {P : Program} {w : World} {K : PySem.W.Frag} {mg : Str → Option Value} {base : Heap} {N : List Str} {sc : Scope}
end
end L3

namespace L3
open PySem PySem.Spec L2
/-! ### tuples of the module -/
theorem Rp.wtp_inv {ad : AD} {K : PySem.W.Frag} {H : Hp} {xs : List PV} {v : V} (h : Rp ad K H (.wtp xs) v) : ∃ a vs, v = .ref a ∧ SqT K H a vs ∧ RpL ad K H xs vs := by
  unfold Rp at h
  obtain ⟨a, vs, e, h1, h2⟩ := h
  exact ⟨a, vs, e, h1.sq, h2⟩
section
variable {X : Cx} {ad : AD} {σ : L2.St} {H H' : Hp} {ρ ρ' : Env} {μ μ1 μ2 μ' : Mem} {p q r : PV} {e e2 a b c tg : Expr} {es : List Expr} {pos cp : Pos} {k : Nat} {i : Int} {D : AEnds}
  {P : Program} {w : World} {K : PySem.W.Frag} {mg : Str → Option Value} {base : Heap} {N : List Str} {sc : Scope} {x : Str}
theorem DG.wtp {ps : List PV} {j : Nat} (hc : X.calm = true) (h : DGs X es ps ρ μ ρ') (hn : (assignEach es X.env).length = ps.length := by rfl) (hst : (assignEach es X.env).findIdx? (·.1) = none := by rfl) : DG X (.Tuple es j pos) (.wtp ps) ρ μ ρ' := by
  obtain ⟨tt, hp, ht⟩ := h
  intro ad σ H v Q R r hQ
  obtain ⟨a, vs, e1, h1, r1⟩ := r.wtp_inv
  exact wG.of (pg_tup (n := ps.length) hc hp hn hst) ⟨a, vs, e1, h1, r1.length.symm, ht ad σ H vs Q R r1 hQ⟩
theorem DI.wtp {xs : List PV} (h : DE X e ρ μ (.wtp xs) μ1) : DI X tg e ρ μ xs (fun _ => True) μ1 :=
  ⟨_, pi_tup (pe_w e), fun ad σ H Q R hQ => h ad σ H _ R fun ad2 v H' s m r => by
    obtain ⟨l, vs, e1, h1, r1⟩ := r.wtp_inv
    refine ⟨l, e1, ⟨vs, h1⟩, hQ ad2 _ H' s m (WalkD.tuple fun ad' H1 μ1 s1 m1 _ => ?_)⟩
    obtain ⟨l', vs', e2, h2, r2⟩ := (s1 _ _ r).wtp_inv
    rw [e1] at e2
    cases e2
    exact ⟨vs', h2, r2⟩⟩
end
end L3

namespace L3
open PySem PySem.Spec L2
/-! ### rows and rays -/
def stpW (g : Fin 4) : Int × Int := plW g false (1, 0)
/-! rays -/
end L3

namespace L3
open PySem PySem.Spec L2 PyProof.Rows
/-! ### whole runs -/
/-- headings -/
theorem hdR_4 (h : Fin 4) (t : Bool) (r : Int) : hdR h t r = hdR h t (r % 4) := by
  apply Fin.ext
  have e1 := hdR_val h t r
  have e2 := hdR_val h t (r % 4)
  cases t
  · simp only [Bool.false_eq_true, if_false, Int.mul_one] at e1 e2; omega
  · simp only [if_true] at e1 e2; omega
theorem dT_stp (h : Fin 4) (t : Bool) (r : Int) : plW h t (dirR r) = stpW (hdR h t r) := by
  have hr : r % 4 = 0 ∨ r % 4 = 1 ∨ r % 4 = 2 ∨ r % 4 = 3 := by omega
  have hd : dirR r = dirR (r % 4) := by unfold dirR; rw [show r % 4 % 4 = r % 4 by omega]
  rw [hd, hdR_4]
  clear hd
  rcases hr with e | e | e | e <;> rw [e] <;> clear e <;> revert h t <;> decide
section
variable {X : Cx} {ρ : Env} {μ μ1 μ2 : Mem} {a b : Expr} {pos cp : Pos} {k : Nat}
  {P : Program} {w : World} {K : PySem.W.Frag} {mg : Str → Option Value} {base : Heap} {N : List Str} {sc : Scope}
end
/-! runs compared -/
section
variable {X : Cx} {μ : Mem} {s r : Int} {h : Fin 4} {t : Bool}
end
end L3

namespace L3
open PySem PySem.Spec L2 PyProof.Rows
/-! ### dicts with texts or whole numbers as keys: objects of the store -/
section
variable {K : PySem.W.Frag} {ad : AD} {H : Hp}
end
section
variable {X : Cx} {P : Program} {w : World} {K : PySem.W.Frag} {mg : Str → Option Value} {base : Heap} {N : List Str} {sc : Scope} {k j : Nat} {ρ ρ' : Env} {μ μ1 μ2 μ' : Mem} {p q r : PV} {e o a b : Expr} {pos cp : Pos} {st : Stmt} {D : AEnds} {n : Nat}
end
theorem B.top {n z : Int} (bn : B 200 n) (h1 : 0 ≤ z) (h2 : z ≤ 2 ^ 110 + n + 1) : B 202 z := by
  have e : (2 : Int) ^ 110 ≤ 1606938044258990275541962092341162602522202993782792835301376 := by decide +kernel
  unfold B at bn ⊢
  have e2 : (2 : Nat) ^ 200 = 1606938044258990275541962092341162602522202993782792835301376 := by decide +kernel
  have e3 : (2 : Nat) ^ 202 = 6427752177035961102167848369364650410088811975131171341205504 := by decide +kernel
  omega
/-! ### the deck of the laws 12 to 19 -/
structure DeckC where
  g : Int
  f : Int
  c : Int
  m : Int
structure ScOk (d : DeckC) (n : Int) : Prop where
  g0 : 0 ≤ d.g
  m0 : 0 ≤ d.m
  m1 : d.m ≤ 2000000000
  c0 : 0 ≤ d.c
  c1 : d.c ≤ n
theorem ScOk.mono {d : DeckC} {n m : Int} (h : ScOk d n) (l : n ≤ m) : ScOk d m := ⟨h.g0, h.m0, h.m1, h.c0, Int.le_trans h.c1 l⟩
/-! ### the four headings as a text -/
/-! ### rings by sides -/
def moreF (k d : Int) : Int := 4 * d * d + (2 * k - 3) * d
theorem more_sq (k d : Int) : moreF k d = (2 * d - 1) * (2 * d - 1) + (2 * k + 1) * d - 1 := by
  unfold moreF
  have e1 : (2 * d - 1) * (2 * d - 1) = 4 * (d * d) - 4 * d + 1 := by
    rw [Int.sub_mul, Int.mul_sub, Int.mul_one, Int.one_mul, sq2]
    omega
  have e2 : (2 * k - 3) * d = 2 * (k * d) - 3 * d := by rw [Int.sub_mul, Int.mul_assoc]
  have e3 : (2 * k + 1) * d = 2 * (k * d) + d := by rw [Int.add_mul, Int.one_mul, Int.mul_assoc]
  rw [e1, e2, e3, Int.mul_assoc 4 d d]
  omega
/-- side k, so far out, so far aside -/
def sideP (k d a : Int) : Int × Int := ((dirR k).1 * d + (dirR (k + 1)).1 * a, (dirR k).2 * d + (dirR (k + 1)).2 * a)
theorem side_nu {k : Nat} {d a : Int} (k4 : k < 4) (d1 : 1 ≤ d) (a0 : -d < a) (a1 : a ≤ d) : nuF (sideP k d a).1 (sideP k d a).2 = moreF k d + a := by
  have e := more_sq ((k : Nat) : Int) d
  have : k = 0 ∨ k = 1 ∨ k = 2 ∨ k = 3 := by omega
  rcases this with rfl | rfl | rfl | rfl
  · rw [show sideP ((0 : Nat) : Int) d a = (d, a) by unfold sideP; rw [dir0 (by decide), dir1 (by decide)]; refine Prod.ext ?_ ?_ <;> dsimp only <;> omega, e, (Side.nu (r := d) (.e d1 (by omega) (by omega) (by omega) rfl)).1]
    omega
  · rw [show sideP ((1 : Nat) : Int) d a = (0 - a, d) by unfold sideP; rw [dir1 (by decide), dir2 (by decide)]; refine Prod.ext ?_ ?_ <;> dsimp only <;> omega, e, (Side.nu (r := d) (.n d1 (by omega) (by omega) (by omega) rfl)).1]
    omega
  · rw [show sideP ((2 : Nat) : Int) d a = (0 - d, 0 - a) by unfold sideP; rw [dir2 (by decide), dir3 (by decide)]; refine Prod.ext ?_ ?_ <;> dsimp only <;> omega, e, (Side.nu (r := d) (.w d1 (by omega) (by omega) (by omega) rfl)).1]
    omega
  · rw [show sideP ((3 : Nat) : Int) d a = (a, 0 - d) by unfold sideP; rw [dir3 (by decide), dir0 (by decide)]; refine Prod.ext ?_ ?_ <;> dsimp only <;> omega, e, (Side.nu (r := d) (.s d1 (by omega) (by omega) (by omega) rfl)).1]
    omega
theorem pl_lin (h : Fin 4) (t : Bool) (u v : Int × Int) (x y : Int) : plW h t (u.1 * x + v.1 * y, u.2 * x + v.2 * y) = ((plW h t u).1 * x + (plW h t v).1 * y, (plW h t u).2 * x + (plW h t v).2 * y) := by
  have e : ∀ z w : Int, 0 - (z * x + w * y) = (0 - z) * x + (0 - w) * y := fun z w => by rw [Int.sub_mul, Int.sub_mul, Int.zero_mul, Int.zero_mul]; omega
  have e2 : ∀ z w : Int, -(z * x + w * y) = -z * x + -w * y := fun z w => by rw [Int.neg_mul, Int.neg_mul]; omega
  rcases hf4 h with rfl | rfl | rfl | rfl <;> cases t <;> simp [plW, mirP, lefN, lefP, e, e2, v3]
/-- the place of a number, by side -/
theorem side_pl {h : Fin 4} {t : Bool} {k : Nat} {d a : Int} (k4 : k < 4) (d1 : 1 ≤ d) (a0 : -d < a) (a1 : a ≤ d) :
    plN h t (moreF k d + a) = ((stpW (hdR h t k)).1 * d + (stpW (hdR h t (k + 1))).1 * a, (stpW (hdR h t k)).2 * d + (stpW (hdR h t (k + 1))).2 * a) := by
  rw [plN_pl (side_nu k4 d1 a0 a1)]
  unfold sideP
  rw [pl_lin, dT_stp, dT_stp]
end L3

namespace L3
open PySem PySem.Spec L2 PyProof.Rows
/-! ### boxes -/
abbrev Bx := Int × Int × Int × Int
/-- how far by a side, on a ring so far laid -/
def eF (d o : Int) (k : Int) : Int := if (if k = 0 then 0 ≤ o else 2 * k * d - 1 ≤ o) then d else d - 1
/-! sides begun -/
end L3

namespace L3
open PySem PySem.Spec L2 PyProof.Rows
section
variable {X : Cx} {ρ : Env} {μ : Mem} {tg a : Expr} {np pos : Pos}
/-- range(n), n whatever it promises -/
theorem DIW.range1 {Qa : List PV → (Mem → Prop) → Mem → Prop} (hg : Gl X "range") (hm : X.mg "range" = none)
    (h : WE X a ρ μ fun p m => ∃ j, p = .int j ∧ -(2 ^ 62) ≤ j ∧ j < 2 ^ 62 ∧ Qa (rngL 0 j.toNat) (fun _ => True) m) (hs : starEach [a] X.env = [(false, eval a X.env)] := by rfl) :
    DIW X tg (.Call (.Name "range" np) [a] [] pos) ρ μ Qa :=
  ⟨_, pi_range1 hg hm (pa_w [a]) hs, fun ad σ H Q R hQ => (WA.cons (es := []) (Qa := fun ps m2 => ∃ j, ps = [PV.int j] ∧ -(2 ^ 62) ≤ j ∧ j < 2 ^ 62 ∧ Qa (rngL 0 j.toNat) (fun _ => True) m2)
    (WE.mono h fun p m q => WA.nil (by obtain ⟨j, e, q1, q2, q3⟩ := q; exact ⟨j, by rw [e], q1, q2, q3⟩)) (by rw [hs]; rfl)) ad σ H _ R fun ad2 vs H' ps m' s m r q => by
      obtain ⟨j, e, q1, q2, q3⟩ := q
      subst e
      exact ⟨j, r.one_int, q1, q2, hQ ad2 _ H' _ _ m' s m WalkD.range q3⟩⟩
end
end L3

namespace L3
open PySem PySem.Spec L2 PyProof.Rows
/-! ### instances: fields, making, methods -/
section
variable {K : PySem.W.Frag} {ad : AD} {H : Hp}
end
/-- the method m of the class at C keeps A, at level k -/
structure MethA (P : Program) (w : World) (K : PySem.W.Frag) (mg : Str → Option Value) (base : Heap) (k : Nat) (C : Addr) (m : Str) (A : ASp) : Prop where
  ex : ∃ (f : Addr) (fd : FuncData) (ps : List Str), FnOk P w K mg base (L2.CX P w) k f fd ps (conc K A) ∧ Meth K C m f ∧ Binds K fd ps []
/-- the class of the module's name x, at C, is made by an __init__ that keeps A -/
structure InitA (P : Program) (w : World) (K : PySem.W.Frag) (mg : Str → Option Value) (base : Heap) (k : Nat) (x : Str) (C : Addr) (A : ASp) : Prop where
  ex : ∃ (f : Addr) (fd : FuncData) (ps : List Str), FnOk P w K mg base (L2.CX P w) k f fd ps (conc K A) ∧ Mk K C f ∧ mg x = some (.ref C) ∧ Binds K fd ps []
structure MDef (K : PySem.W.Frag) (C : Addr) (m qual : Str) (st : Stmt) (ps : List Str) : Prop where
  ex : ∃ f fd, Fun K m qual st f fd ∧ Meth K C m f ∧ Binds K fd ps []
structure IDef (K : PySem.W.Frag) (mg : Str → Option Value) (C : Addr) (x qual : Str) (st : Stmt) (ps : List Str) : Prop where
  ex : ∃ f fd, Fun K "__init__" qual st f fd ∧ Mk K C f ∧ mg x = some (.ref C) ∧ Binds K fd ps []
section
variable {X : Cx} {P : Program} {w : World} {K : PySem.W.Frag} {mg : Str → Option Value} {base : Heap} {N : List Str} {sc : Scope} {k j n : Nat} {x m qual f : Str} {A : ASp} {C : Addr} {ρ ρ' : Env} {μ μ1 μ2 μ' : Mem} {p q r : PV} {e o a b : Expr} {es : List Expr} {pos cp apos : Pos} {D : AEnds} {st : Stmt} {ps : List Str}
theorem MDef.ok (d : MDef K C m qual st ps) (S : FnScope N ps (defScope st)) (len : ∀ args μ Q E, A args μ Q E → args.length = ps.length)
    (body : ∀ (X : Cx) (args : List PV) (μ : Mem) (Q : PV → Mem → Prop) (E : EX → Mem → Prop), CxF X P w K mg base N (defScope st) k → A args μ Q E → DSs X (defBody st) (entry N args) μ (fnEnds μ Q)) : MethA P w K mg base (k + 1) C m A := by
  obtain ⟨f, fd, F, M, B⟩ := d.ex
  exact ⟨f, fd, ps, FnOk.ofA F S len body, M, B⟩
theorem IDef.ok (d : IDef K mg C x qual st ps) (S : FnScope N ps (defScope st)) (len : ∀ args μ Q E, A args μ Q E → args.length = ps.length)
    (body : ∀ (X : Cx) (args : List PV) (μ : Mem) (Q : PV → Mem → Prop) (E : EX → Mem → Prop), CxF X P w K mg base N (defScope st) k → A args μ Q E → DSs X (defBody st) (entry N args) μ (fnEnds μ Q)) : InitA P w K mg base (k + 1) x C A := by
  obtain ⟨f, fd, F, M, h, B⟩ := d.ex
  exact ⟨f, fd, ps, FnOk.ofA F S len body, M, h, B⟩
/-- C(e, ..): a new instance -/
theorem DE.make {ps : List PV} (cx : CxD X P w K mg base N sc k) (I : InitA P w K mg base j x C A) (hj : j + 1 ≤ k) (hx : sc.names.lookup x = some .globalImplicit) (ha : DA X (e :: es) ρ μ ps μ1)
    (hA : A (.obj μ1.length :: ps) (μ1 ++ [.ins C [] []]) (fun r m => r = .non ∧ m = μ2) (fun _ _ => False))
    (hdb : (x == ("__debug__" : Str)) = false := by decide) (he : starEach (e :: es) X.env = (false, eval e X.env) :: starEach es X.env := by rfl) (hpl : (backTo pos (starEach es X.env)).any (·.1) = false := by rfl) :
    DE X (.Call (.Name x cp) (e :: es) [] pos) ρ μ (.obj μ1.length) μ2 := fun ad σ H Q R g => by
  obtain ⟨fI, fd, pn, F, M, hm, B⟩ := I.ex
  rw [← cx.eP, ← cx.ew, ← cx.eK, ← cx.emg, ← cx.eb] at F
  rw [← cx.eK] at M B
  rw [← cx.emg] at hm
  refine wE.of (pe_make M F (cx.room.mono hj) (cx.gl x hx) hm B .nil passE0 (pa_w _) hdb he hpl) (ha ad σ H _ R fun ad1 vs H1 s1 m1 r1 => ?_)
  intro l dx hl hdx ne
  rw [List.append_nil]
  have sd : Stp (ad ++ ad1) [] H1 (upd H1 dx (.own l)) := Stp.data hdx
  have md : Mst (ad ++ ad1) X.K (upd H1 dx (.own l)) μ1 := m1.data hdx
  have hl2 : upd H1 dx (.own l) l = none := by rw [upd_ne (Ne.symm ne)]; exact hl
  have sn : Stp (ad ++ ad1 ++ ([] : List Addr)) [l] (upd H1 dx (.own l)) (upd (upd H1 dx (.own l)) l (.ins C dx [])) := Stp.fresh hl2
  have mn : Mst (ad ++ ad1 ++ [l]) X.K (upd (upd H1 dx (.own l)) l (.ins C dx [])) (μ1 ++ [.ins C [] []]) := md.push hl2 ⟨dx, [], upd_same, rfl, RpL.nil⟩
  have st : Stp (ad ++ ad1) [l] H1 (upd (upd H1 dx (.own l)) l (.ins C dx [])) := by
    have := sd.trans sn
    simpa using this
  have ro : Rp (ad ++ ad1 ++ [l]) X.K (upd (upd H1 dx (.own l)) l (.ins C dx [])) (.obj μ1.length) (.ref l) := by
    unfold Rp
    exact ⟨l, rfl, AD.at_snoc md.len⟩
  refine ⟨ad ++ ad1 ++ [l], μ1 ++ [.ins C [] []], .obj μ1.length :: ps, _, _, mn, RpL.cons ro (RpL.mono (K := X.K) st ps vs r1), hA, fun ad2 H' μ' r v s m rr hq => ?_, fun _ _ _ _ _ _ _ _ _ h => h.elim⟩
  obtain ⟨rfl, rfl⟩ := hq
  refine ⟨rr.non_inv, ?_⟩
  refine g (ad1 ++ [l] ++ ad2) _ H' ?_ ?_ ?_
  · have := (s1.trans (st.trans s))
    simpa using this
  · have e : ad ++ (ad1 ++ [l] ++ ad2) = ad ++ ad1 ++ [l] ++ ad2 := by rw [AD.append_assoc, AD.append_assoc, List.append_assoc]
    rw [e]
    exact m
  · have e : ad ++ (ad1 ++ [l] ++ ad2) = ad ++ ad1 ++ [l] ++ ad2 := by rw [AD.append_assoc, AD.append_assoc, List.append_assoc]
    rw [e]
    exact ro.mono s
end
end L3

namespace L3
open PySem PySem.Spec L2 PyProof.Rows
/-! ### list(zip(xs, ys)), xs and ys lists -/
section
variable {P : Program} {W : World} {B : Around} {z TI TO i1 i2 l1 l2 S base : Addr} {xs ys acc : Array Value} {k : Nat}
end
section
variable {P : Program} {W : World} {B : Around} {z TI TO i1 i2 l1 l2 S base : Addr} {xs ys : Array Value} {R : Result → Shared → Prop} {res : Value}
end
end L3

namespace L3
open PySem PySem.Spec L2 PyProof.Rows
/-! ### new objects tracked on a heap that has them -/
/-! ### the rule -/
section
variable {X : Cx} {K : PySem.W.Frag} {ad : AD} {μ μ1 : Mem} {P : Program} {w : World} {mg : Str → Option Value} {base : Heap} {N : List Str} {sc : Scope} {k : Nat} {ρ : Env} {p q : PV} {e e2 : Expr} {pos cp pz pp : Pos}
end
end L3

namespace L3
open PySem PySem.Spec L2 PyProof.Rows
/-! ### sums over stretches of whole numbers -/
/-! ### a worth of the third degree, by differences -/
end L3

namespace L3
open PySem PySem.Spec L2 PyProof.Rows
/-! ### the numbers of a box, by sides and rings -/
def inB (b : Bx) (p : Int × Int) : Prop := b.1 ≤ p.1 ∧ p.1 ≤ b.2.2.1 ∧ b.2.1 ≤ p.2 ∧ p.2 ≤ b.2.2.2
instance (b : Bx) (p : Int × Int) : Decidable (inB b p) := by unfold inB; exact inferInstance
theorem hdR_adj (h : Fin 4) (t : Bool) (k : Int) : hdR h t (k + 1) = (if t = true then hdR h t k + 3 else hdR h t k + 1) := by
  have hr : k % 4 = 0 ∨ k % 4 = 1 ∨ k % 4 = 2 ∨ k % 4 = 3 := by omega
  rw [hdR_4 h t k, hdR_4 h t (k + 1), show (k + 1) % 4 = (k % 4 + 1) % 4 by omega]
  rcases hr with e | e | e | e <;> rw [e] <;> clear e <;> revert h t <;> decide
end L3

namespace L3
open PySem PySem.Spec L2 PyProof.Rows
/-! ### pieces of a side, each by one rule -/
/-! ### what a side tells -/
/-! the sides that a box meets -/
end L3

namespace L3
open PySem PySem.Spec L2 PyProof.Rows
section
variable {X : Cx} {P : Program} {w : World} {K : PySem.W.Frag} {mg : Str → Option Value} {base : Heap} {N : List Str} {sc : Scope} {k : Nat} {x : Str} {ρ : Env} {μ μ1 : Mem} {e : Expr} {pos pos' : Pos} {D : AEnds} {sts : List Stmt}
end
/-! ### Worth's instances -/
section
variable {a b c d e f : PV}
end
/-! ### boxes to 10 ** 9 either way -/
end L3

namespace L3
open PySem PySem.Spec L2 PyProof.Rows
end L3
namespace L3
end L3

namespace L3
open PySem PySem.Spec L2 PyProof.Rows
/-! ### sums over the first so many -/
/-! how many lie with a coordinate above nought -/
end L3

namespace L3
open PySem PySem.Spec L2 PyProof.Rows
section
variable {X : Cx} {ρ ρ' : Env} {μ : Mem} {pos : Pos}
theorem DG.lstA {tg : List Expr} {ps : List PV} {p : PV} {j : Nat} (hc : X.calm = true) (hl : asL μ p = some ps) (h : DGs X tg ps ρ μ ρ') (hn : (assignEach tg X.env).length = ps.length := by rfl) (hst : (assignEach tg X.env).findIdx? (·.1) = none := by rfl) : DG X (.Tuple tg j pos) p ρ μ ρ' := by
  obtain ⟨tt, hp, ht⟩ := h
  intro ad σ H v Q R r hQ
  obtain ⟨a, vs, e1, h1, r1⟩ := r.asL_inv hl R.m
  exact wG.of (pg_unl (n := ps.length) hc hp hn hst) ⟨a, vs, e1, h1, r1.length.symm, ht ad σ H vs Q R r1 hQ⟩
end
/-! ### how far a place is by a heading, and its number -/
def byW (g : Fin 4) (p : Int × Int) : Int := (stpW g).1 * p.1 + (stpW g).2 * p.2
theorem by_0 (p : Int × Int) : byW 0 p = p.1 := by
  unfold byW
  rw [show stpW 0 = (1, 0) by decide]
  omega
theorem by_1 (p : Int × Int) : byW 1 p = p.2 := by
  unfold byW
  rw [show stpW 1 = (0, 1) by decide]
  omega
theorem by_2 (p : Int × Int) : byW 2 p = 0 - p.1 := by
  unfold byW
  rw [show stpW 2 = (-1, 0) by decide]
  omega
theorem by_3 (p : Int × Int) : byW 3 p = 0 - p.2 := by
  unfold byW
  rw [show stpW 3 = (0, -1) by decide]
  omega
theorem by_opp (g : Fin 4) (p : Int × Int) : byW (g + 2) p = 0 - byW g p := by
  rcases hf4 g with rfl | rfl | rfl | rfl
  · rw [show (0 : Fin 4) + 2 = 2 by decide, by_0, by_2]
  · rw [show (1 : Fin 4) + 2 = 3 by decide, by_1, by_3]
  · rw [show (2 : Fin 4) + 2 = 0 by decide, by_0, by_2]; omega
  · rw [show (3 : Fin 4) + 2 = 1 by decide, by_1, by_3]; omega
theorem by_dec {g g' : Fin 4} (ad : g' = g + 1 ∨ g' = g + 3) (p : Int × Int) : ((stpW g).1 * byW g p + (stpW g').1 * byW g' p, (stpW g).2 * byW g p + (stpW g').2 * byW g' p) = p := by
  have s0 : stpW 0 = (1, 0) := by decide
  have s1 : stpW 1 = (0, 1) := by decide
  have s2 : stpW 2 = (-1, 0) := by decide
  have s3 : stpW 3 = (0, -1) := by decide
  obtain ⟨x, y⟩ := p
  rcases ad with rfl | rfl <;> rcases hf4 g with rfl | rfl | rfl | rfl
  · rw [show (0 : Fin 4) + 1 = 1 by decide, s0, s1, by_0, by_1]; simp
  · rw [show (1 : Fin 4) + 1 = 2 by decide, s1, s2, by_1, by_2]; simp
  · rw [show (2 : Fin 4) + 1 = 3 by decide, s2, s3, by_2, by_3]; simp
  · rw [show (3 : Fin 4) + 1 = 0 by decide, s3, s0, by_3, by_0]; simp
  · rw [show (0 : Fin 4) + 3 = 3 by decide, s0, s3, by_0, by_3]; simp
  · rw [show (1 : Fin 4) + 3 = 0 by decide, s1, s0, by_1, by_0]; simp
  · rw [show (2 : Fin 4) + 3 = 1 by decide, s2, s1, by_2, by_1]; simp
  · rw [show (3 : Fin 4) + 3 = 2 by decide, s3, s2, by_3, by_2]; simp
theorem by_max {g g' : Fin 4} (ad : g' = g + 1 ∨ g' = g + 3) (p : Int × Int) : max ((byW g p).natAbs : Int) ((byW g' p).natAbs : Int) = max (p.1.natAbs : Int) (p.2.natAbs : Int) := by
  rcases ad with rfl | rfl <;> rcases hf4 g with rfl | rfl | rfl | rfl
  · rw [show (0 : Fin 4) + 1 = 1 by decide, by_0, by_1]
  · rw [show (1 : Fin 4) + 1 = 2 by decide, by_1, by_2]; omega
  · rw [show (2 : Fin 4) + 1 = 3 by decide, by_2, by_3]; omega
  · rw [show (3 : Fin 4) + 1 = 0 by decide, by_3, by_0]; omega
  · rw [show (0 : Fin 4) + 3 = 3 by decide, by_0, by_3]; omega
  · rw [show (1 : Fin 4) + 3 = 0 by decide, by_1, by_0]; omega
  · rw [show (2 : Fin 4) + 3 = 1 by decide, by_2, by_1]; omega
  · rw [show (3 : Fin 4) + 3 = 2 by decide, by_3, by_2]; omega
theorem hd_adj2 (h : Fin 4) (t : Bool) (k : Int) : hdR h t (k + 1) = hdR h t k + 1 ∨ hdR h t (k + 1) = hdR h t k + 3 := by
  rw [hdR_adj]
  cases t
  · exact .inl rfl
  · exact .inr rfl
def rgP (p : Int × Int) : Int := max (p.1.natAbs : Int) (p.2.natAbs : Int)
theorem by_num {h : Fin 4} {t : Bool} {j : Nat} {p : Int × Int} (j4 : j < 4) (r1 : 1 ≤ rgP p) (c1 : byW (hdR h t ((j : Nat) : Int)) p = rgP p) (c2 : byW (hdR h t (((j : Nat) : Int) + 1)) p > 0 - rgP p) : nuW h t p = moreF j (rgP p) + byW (hdR h t (((j : Nat) : Int) + 1)) p := by
  have ad := hd_adj2 h t ((j : Nat) : Int)
  have m := by_max ad p
  have dd := by_dec ad p
  have a1 : byW (hdR h t (((j : Nat) : Int) + 1)) p ≤ rgP p := by
    show _ ≤ max _ _
    rw [← m]
    omega
  have e := side_pl (h := h) (t := t) j4 r1 (show -(rgP p) < byW (hdR h t (((j : Nat) : Int) + 1)) p by omega) a1
  have nn : 0 ≤ moreF j (rgP p) + byW (hdR h t (((j : Nat) : Int) + 1)) p := by
    rw [← side_nu j4 r1 (show -(rgP p) < byW (hdR h t (((j : Nat) : Int) + 1)) p by omega) a1]
    exact nuF_nonneg _ _
  rw [← c1] at e
  rw [c1] at e
  have e2 : plN h t (moreF j (rgP p) + byW (hdR h t (((j : Nat) : Int) + 1)) p) = p := by
    rw [e]
    conv => lhs; rw [← c1]
    rw [c1] at dd
    rw [c1]
    exact dd
  have := plN_nu (h := h) (t := t) nn
  rwa [e2] at this
theorem hd_opp (h : Fin 4) (t : Bool) (k : Int) : hdR h t (k + 2) = hdR h t k + 2 := by
  rw [show k + 2 = k + 1 + 1 by omega, hdR_adj, hdR_adj]
  generalize hdR h t k = g
  cases t <;> revert g <;> decide
theorem by_some (h : Fin 4) (t : Bool) {p : Int × Int} (r1 : 1 ≤ rgP p) : ∃ j : Nat, j < 4 ∧ byW (hdR h t ((j : Nat) : Int)) p = rgP p ∧ byW (hdR h t (((j : Nat) : Int) + 1)) p > 0 - rgP p := by
  have m := by_max (hd_adj2 h t 0) p
  have e2 : byW (hdR h t 2) p = 0 - byW (hdR h t 0) p := by rw [show (2 : Int) = 0 + 2 by decide, hd_opp, by_opp]
  have e3 : byW (hdR h t 3) p = 0 - byW (hdR h t (0 + 1)) p := by rw [show (3 : Int) = (0 + 1) + 2 by decide, hd_opp, by_opp]
  have e4 : byW (hdR h t 4) p = byW (hdR h t 0) p := by rw [show (4 : Int) = 2 + 2 by decide, hd_opp, by_opp, e2]; omega
  have hm : max ((byW (hdR h t 0) p).natAbs : Int) ((byW (hdR h t (0 + 1)) p).natAbs : Int) = rgP p := m
  rw [show (0 : Int) + 1 = 1 by decide] at hm e3
  generalize rgP p = r at *
  by_cases c0 : byW (hdR h t 0) p = r ∧ byW (hdR h t 1) p > 0 - r
  · exact ⟨0, by decide, c0⟩
  by_cases c1 : byW (hdR h t 1) p = r ∧ byW (hdR h t 2) p > 0 - r
  · exact ⟨1, by decide, c1⟩
  by_cases c2 : byW (hdR h t 2) p = r ∧ byW (hdR h t 3) p > 0 - r
  · exact ⟨2, by decide, c2⟩
  refine ⟨3, by decide, ?_⟩
  show byW (hdR h t 3) p = r ∧ byW (hdR h t 4) p > 0 - r
  omega
/-! ### a box's numbers, column by column -/
end L3

namespace L3
open PySem PySem.Spec L2 PyProof.Rows
/-! ### drawn boxes -/
theorem get_app {μ l : Mem} {k : Nat} {z : MO} (h : μ[k]? = some z) : (μ ++ l)[k]? = some z := by
  have : k < μ.length := (List.getElem?_eq_some_iff.mp h).1
  rw [List.getElem?_append_left this]
  exact h
theorem set_app {μ l : Mem} {k : Nat} {z y : MO} (h : μ[k]? = some z) : (μ ++ l).set k y = μ.set k y ++ l := by
  have : k < μ.length := (List.getElem?_eq_some_iff.mp h).1
  rw [List.set_append_left _ _ this]
theorem nu_zero (h : Fin 4) (t : Bool) : nuW h t (0, 0) = 0 := by
  have := plN_nu (h := h) (t := t) (Int.le_refl 0)
  rwa [plN_zero] at this
theorem rg_0 {p : Int × Int} (h : rgP p = 0) : p = (0, 0) := by
  obtain ⟨x, y⟩ := p
  unfold rgP at h
  dsimp only at h
  refine Prod.ext ?_ ?_ <;> dsimp only <;> omega
/-- a place of the plane, in a box that may be drawn -/
def PtS (p : Int × Int) : Prop := -1000000000 ≤ p.1 ∧ p.1 ≤ 1000000000 ∧ -1000000000 ≤ p.2 ∧ p.2 ≤ 1000000000
theorem nu_le (h : Fin 4) (t : Bool) {p : Int × Int} (hp : PtS p) : nuW h t p ≤ 5000000000000000000 := by
  obtain ⟨b1, b2, b3, b4⟩ := hp
  have rb : 0 ≤ rgP p ∧ rgP p ≤ 1000000000 := by
    unfold rgP
    omega
  by_cases c : rgP p = 0
  · rw [rg_0 c, nu_zero]
    decide
  · obtain ⟨j, j4, c1, c2⟩ := by_some h t (p := p) (by omega)
    rw [by_num j4 (by omega) c1 c2, more_sq]
    have ad := by_max (hd_adj2 h t ((j : Nat) : Int)) p
    have a1 : byW (hdR h t (((j : Nat) : Int) + 1)) p ≤ rgP p := by
      show _ ≤ max _ _
      rw [← ad]
      omega
    have e1 : (2 * rgP p - 1) * (2 * rgP p - 1) ≤ 1999999999 * 1999999999 := Int.mul_le_mul (by omega) (by omega) (by omega) (by decide)
    have e2 : (2 * ((j : Nat) : Int) + 1) * rgP p ≤ 7 * 1000000000 := Int.mul_le_mul (by omega) (by omega) (by omega) (by decide)
    omega
section
variable {X : Cx} {ρ ρ' : Env} {μ : Mem} {pos : Pos} {D : AEnds}
theorem DS.setIW {a b e : Expr} {sp : Pos} (hv : WE X e ρ μ fun p μ1 => ∃ (n : Nat) (i : Int) (j : Nat) (xs : List PV), DE X a ρ μ1 (.obj n) μ1 ∧ DE X b ρ μ1 (.int i) μ1 ∧ μ1[n]? = some (.lst xs) ∧ ixN xs.length i = some j ∧ D.nx ρ (μ1.set n (.lst (xs.set j p))))
    (ha : ∀ v, assign (.Subscript a b sp) X.env v = (do
      let ov ← holding [v] (eval a X.env)
      let iv ← holding [v, ov] (eval b X.env)
      standAt sp
      holding [v, ov, iv] (setItem ov iv v)
      release [v, ov, iv] []) := by intro _; rfl)
    (hs : swapsWithSole [.Subscript a b sp] e pos.line X.env = pure false := by rfl) (hw : swappedStores [.Subscript a b sp] e X.env = pure none := by rfl) (h1 : (assignEach [.Subscript a b sp] X.env).map (·.2) = [assign (.Subscript a b sp) X.env] := by rfl) :
    DS X (.Assign [.Subscript a b sp] e pos) ρ μ D := fun ad σ H Dc R C => by
  refine wS.of (ps_asg (pe_w e) (pg_sub (pe_w a) (pe_w b) set_list ha) hs hw h1) (hv ad σ H _ R fun ad1 v H1 p μ1 s1 m1 r1 q => ?_)
  obtain ⟨n, i, j, xs, ho, hi, hm, hj, hn⟩ := q
  refine ho (ad ++ ad1) σ H1 _ (R.mono s1 m1) fun ad2 o H2 s2 m2 r2 => ?_
  refine hi (ad ++ ad1 ++ ad2) σ H2 _ ((R.mono s1 m1).mono s2 m2) fun ad3 iv H3 s3 m3 r3 => ?_
  obtain ⟨l, e1, h1⟩ := (r2.mono s3).obj_inv
  obtain ⟨vs, hvs, rl⟩ := m3.mem n l _ h1 hm
  refine ⟨l, vs, i, j, e1, r3.int_inv, hvs, by rw [← rl.length]; exact hj, ?_⟩
  have s4 : Stp (ad ++ ad1 ++ ad2 ++ ad3) [] H3 (upd H3 l (.lst (vs.set j v))) := Stp.write h1
  have m4 := m3.write (o := .lst (vs.set j v)) (m := .lst (xs.set j p)) h1 ⟨_, upd_same, (rl.set j ((r1.mono s2).mono s3)).wr h1⟩
  have R3 : Rst (ad ++ ad1 ++ ad2 ++ ad3) X.K H3 σ ρ μ1 := ((R.mono s1 m1).mono s2 m2).mono s3 m3
  have m4' : Mst (ad ++ ad1 ++ ad2 ++ ad3 ++ ([] : List Addr)) X.K (upd H3 l (.lst (vs.set j v))) (μ1.set n (.lst (xs.set j p))) := by rw [AD.append_nil]; exact m4
  exact (((C.step s1).step s2).step s3).nx [] σ _ ρ _ s4 (R3.mono s4 m4') hn
end
end L3

namespace L3
open PySem PySem.Spec L2 PyProof.Rows
section
variable {X : Cx} {ρ ρ' : Env} {μ μ1 : Mem} {pos : Pos} {q r : PV} {a b : Expr} {i : Int}
/-- a tuple, or a list -/
def Sq (μ : Mem) (q : PV) (xs : List PV) : Prop := q = .tup xs ∨ asL μ q = some xs
theorem DG.seq {tg : List Expr} {ps : List PV} {p : PV} {j : Nat} (hc : X.calm = true) (hl : Sq μ p ps) (h : DGs X tg ps ρ μ ρ') (hn : (assignEach tg X.env).length = ps.length := by rfl) (hst : (assignEach tg X.env).findIdx? (·.1) = none := by rfl) : DG X (.Tuple tg j pos) p ρ μ ρ' := by
  rcases hl with rfl | hl
  · exact DG.tup hc h hn hst
  · exact DG.lstA hc hl h hn hst
end
end L3

namespace L3
open PySem PySem.Spec L2 PyProof.Rows
section
variable {X : Cx} {ρ ρ' : Env} {μ μ1 μ2 : Mem} {pos cp : Pos} {p q r : PV} {a b o e : Expr} {i : Int} {n : Nat}
end
/-! ### the least and the greatest number of a box -/
end L3

namespace L3
open PySem PySem.Spec L2 PyProof.Rows
section
variable {ad : AD} {ad2 : List Addr} {K : PySem.W.Frag} {H H' : Hp} {μ : Mem}
end
section
variable {X : Cx} {P : Program} {w : World} {K : PySem.W.Frag} {mg : Str → Option Value} {base : Heap} {N : List Str} {sc scope : Scope} {k j : Nat} {x : Str} {A : ASp} {ρ ρ' : Env} {μ μ1 μ2 μ3 μ' : Mem} {p q r : PV} {e a b c o tg : Expr} {es : List Expr} {pos cp : Pos} {D : AEnds} {kb : Bool} {st : Stmt} {sts : List Stmt}
end
end L3

namespace L3
open PySem PySem.Spec L2 PyProof.Rows
section
variable {X : Cx} {P : Program} {w : World} {K : PySem.W.Frag} {mg : Str → Option Value} {base : Heap} {N : List Str} {sc : Scope} {k : Nat} {ρ : Env} {μ μ1 μ2 : Mem} {a b : Expr} {pos cp : Pos}
end
end L3

namespace L3
open PySem PySem.Spec L2 PyProof.Rows
/-! ### the box of the first: all stand in it, and not without one of its sides -/
/-! ### the plane turned and mirrored -/
section
variable {X : Cx} {P : Program} {w : World} {K : PySem.W.Frag} {mg : Str → Option Value} {base : Heap} {N : List Str} {sc : Scope} {k : Nat} {ρ ρ' : Env} {μ μ1 : Mem} {a b c e : Expr} {pos cp : Pos} {p q r : PV} {D : AEnds} {sts : List Stmt} {x : Str}
/-- a def that the module names otherwise than itself -/
structure DefAs (K : PySem.W.Frag) (mg : Str → Option Value) (g x : Str) (st : Stmt) (ps : List Str) : Prop where
  ex : ∃ f fd, Fun K x x st f fd ∧ mg g = some (.ref f) ∧ Binds K fd ps []
theorem DefAs.ok {g : Str} {st : Stmt} {ps : List Str} {A : ASp} (d : DefAs K mg g x st ps) (S : FnScope N ps (defScope st)) (len : ∀ args μ Q E, A args μ Q E → args.length = ps.length)
    (body : ∀ (X : Cx) (args : List PV) (μ : Mem) (Q : PV → Mem → Prop) (E : EX → Mem → Prop), CxF X P w K mg base N (defScope st) k → A args μ Q E → DSs X (defBody st) (entry N args) μ (fnEnds μ Q)) : FnA P w K mg base (k + 1) g A := by
  obtain ⟨f, fd, F, hm, hB⟩ := d.ex
  exact ⟨f, fd, ps, FnOk.ofA F S len body, hm, F.kp, hB⟩
end
end L3

namespace L3
open PySem PySem.Spec L2 PyProof.Rows
end L3

namespace L3
open PySem PySem.Spec L2 PyProof.Rows
/-! ### whole boxes: the plane turned, boxes parted -/
/-- the same numbers stand in both -/
def SameB (h : Fin 4) (t : Bool) (b : Bx) (h' : Fin 4) (t' : Bool) (b' : Bx) : Prop := ∀ n : Int, 0 ≤ n → (inB b' (plN h' t' n) ↔ inB b (plN h t n))
theorem SameB.refl (h : Fin 4) (t : Bool) (b : Bx) : SameB h t b h t b := fun _ _ => Iff.rfl
/-! ### one place, its ends, its counts -/
/-! ### a square round the middle -/
end L3

namespace L3
open PySem PySem.Spec L2 PyProof.Rows
/-! ### min of a list of pairs -/
section
variable {X : Cx} {μ : Mem} {p : PV}
end
end L3

namespace L3
open PySem PySem.Spec L2 PyProof.Rows
end L3

/-! L3: exceptions of classes without their own __init__: raised with a text, made by hand, their text; list + list as a new list. -/
namespace L3
open PySem PySem.Spec L2 PyProof.Rows
/-- what the top says of a class of exceptions without its own __init__ -/
structure OwX (K : PySem.W.Frag) (mg : Str → Option Value) (x : Str) (C : Addr) : Prop where
  mC : mg x = some (.ref C)
  q : PySem.W.excIn K C [.type "ValueError", .type "Exception", .type "BaseException", .type "object"] "ValueError.__new__" = true
  kC : PySem.W.keepIn K (.ref C) = true
  eC : PySem.W.subIn K (.ref C) (.type "BaseException") = some true
  tC : PySem.W.typeIn K (.ref C) = some (.type "type")
/-- what isinstance asks of a class of exceptions -/
structure IsX (K : PySem.W.Frag) (C : Addr) : Prop where
  xf : XfC K C
  ha : PySem.W.findIn K (.ref C) "__class__" = some (some (.builtin "object.__class__"))
  hn : PySem.W.specialIn K (.builtin "object.__class__") "__get__" = some (some (.builtin "getset_descriptor.__get__"))
  ht : PySem.W.takesIn K (.builtin "object.__class__") = some true
  hm : PySem.W.mroIn K C (.type "object") = some true
def txX (C : Addr) : EX := ⟨C, [], []⟩
/-- the class of an exception kept as data -/
def xCl : PV → Option Addr
  | .exc C _ _ => some C
  | .exm C _ => some C
  | _ => none
section
variable {X : Cx} {P : Program} {w : World} {K : PySem.W.Frag} {mg : Str → Option Value} {base : Heap} {N : List Str} {sc : Scope} {k j : Nat} {x y m : Str} {ρ ρ' : Env} {μ μ1 μ2 μ' : Mem} {p q r : PV} {e a b : Expr} {pos cp p1 p2 p3 p4 : Pos} {D : AEnds} {C : Addr} {jj : Nat}
/-- raise C("m") -/
theorem DS.raiseTxt (cx : CxD X P w K mg base N sc k) (T : OwX K mg x C) (hx : sc.names.lookup x = some .globalImplicit) (hd : D.xx (txX C) ρ μ) (hdb : (x == ("__debug__" : Str)) = false := by decide) :
    DS X (.Raise (some (.Call (.Name x p3) [.Constant (.str m) jj p4] [] p2)) none pos) ρ μ D := fun ad σ H Dc R Cv => by
  refine wS.of (ps_raise cx.calm takesX0 (pmk_own F.excBase_ValueError (by rw [cx.eK]; exact T.q) (by rw [cx.emg]; exact T.mC) (by rw [cx.eK]; exact T.kC) (raises_own (by rw [cx.eK]; exact T.eC) (by rw [cx.eK]; exact T.tC)) (cx.gl _ hx) hdb)) ?_
  exact Cv.xx [] σ H ρ μ (txX C) (.ref C) none Stp.refl (by rwa [AD.append_nil]) ⟨[], rfl, rfl, rfl, RpL.nil⟩ hd
/-! ### made by hand -/
theorem pe_exm {B newId initId : String} {bmB : List Value} {ta : TA} (F : ExcBaseFacts B newId initId bmB) (q : PySem.W.excIn X.K C bmB newId = true) (gC : X.mg x = some (.ref C)) (kC : PySem.W.keepIn X.K (.ref C) = true) (hg : Gl X x)
    (he : PA X [e] ta) (hs : starEach [e] X.env = (false, eval e X.env) :: starEach [] X.env := by rfl) (hpl : (backTo pos (starEach [] X.env)).any (·.1) = false := by rfl) (hdb : (x == ("__debug__" : Str)) = false := by decide) :
    PE X (.Call (.Name x p1) [e] [] pos) (fun σ H Q => ta σ H fun vs H1 => ∃ m : Str, vs = [V.str m] ∧ ∀ a t, H1 a = none → H1 t = none → a ≠ t → Q (.ref a) (upd (upd H1 t (.tup [.str m])) a (exT a C t))) := by
  refine ⟨fun pins s σ H Q I h => ?_⟩
  refine wpAny_Call_Name_kw (ld_glob I hg gC ?_ hdb)
  refine PySem.W.callWith_K (h₀ := X.base) I.ok.mod.kin kC (thn (he.run pos pins s σ H _ I h) fun us s1 ⟨vs, H1, I1, r1, m, ev, q1⟩ => ⟨I1.kIn, ?_⟩) hs hpl
  subst ev
  cases r1 with
  | @cons _ u _ us' ru rn =>
    cases rn
    show wpAny _ _ (call (.ref C) [u]) _ _ _
    obtain ⟨bm, Nn, nm, qn, bs, hdct, sn, sub, ab, col, dd, k0, k1, k2, k3, k5, mN, hC, hN, hni, T⟩ := exc_obj I1.kIn q
    refine wpAny_call_exc_subT F T hC hN hni (fun h' a hm => ?_) (by show 1 ≤ sizeLine; rw [sizeLine_eq]; omega)
    obtain ⟨t, ha, ht0, ht⟩ := hm.there
    have hna : H1 a = none := I1.hok.gone hm.new
    have hnt : H1 t = none := I1.hok.gone ht0
    have hne : a ≠ t := fun z => by
      rw [z, ht] at ha
      cases ha
    have hok1 : HOk X.prog X.w (upd H1 t (.tup [.str m])) h' := I1.hok.laidN hm.keeps hnt ⟨by show 1 ≤ sizeLine; rw [sizeLine_eq]; omega, [u], .cons ru .nil, _, ht, rfl, _, rfl⟩
    have hna2 : upd H1 t (.tup [.str m]) a = none := by rw [upd_ne hne]; exact hna
    have hok2 : HOk X.prog X.w (upd (upd H1 t (.tup [.str m])) a (exT a C t)) h' := hok1.laidN (fun _ _ z => z) hna2
      ⟨⟨_, ha, ⟨rfl, rfl⟩, _, rfl, rfl⟩, ⟨_, ha⟩, fun h1 h2 ⟨oe, e1, z⟩ k => ⟨oe, k _ e1, z⟩⟩
    have nd : ∀ {b : Addr} {o : Obj}, s1.heap.get? b = some o → b ≠ a ∧ b ≠ t := fun {b o} z => ⟨fun e => by (rw [e, hm.new] at z; cases z), fun e => by (rw [e, ht0] at z; cases z)⟩
    have U : Un X.fs [] H1 (upd (upd H1 t (.tup [.str m])) a (exT a C t)) s1.heap h' := {
      keep := fun b o z n hf hx => hm.keeps b o z
      slot := fun b o z n hf hx => ⟨o.slots, hm.keeps b o z⟩
      free := fun b o z n hx => by
        rw [upd_ne (nd z).1, upd_ne (nd z).2]
        exact n
      there := fun b o z hx => ⟨o, hm.keeps b o z⟩
      tups := fun b xs z => by
        rw [upd_ne (ne_of_none z hna), upd_ne (ne_of_none z hnt)]
        exact z
      frzs := fun b o v z => by
        rw [upd_ne (ne_of_none z hna), upd_ne (ne_of_none z hnt)]
        exact z
      tbls := fun b ps z => ⟨#[], by
        rw [upd_ne (ne_of_none z hna), upd_ne (ne_of_none z hnt), z]
        simp⟩ }
    exact ⟨.ref a, _, I1.un (t' := s1.toks) U hok2, rfl, q1 a t hna hnt hne⟩
/-- C("..") as a value -/
theorem DE.mkX (cx : CxD X P w K mg base N sc k) (T : OwX K mg x C) (hx : sc.names.lookup x = some .globalImplicit) (ha : DE X e ρ μ (.str m) μ1) (hdb : (x == ("__debug__" : Str)) = false := by decide)
    (hs : starEach [e] X.env = (false, eval e X.env) :: starEach [] X.env := by rfl) (hpl : (backTo pos (starEach [] X.env)).any (·.1) = false := by rfl) : DE X (.Call (.Name x p1) [e] [] pos) ρ μ (.exm C m) μ1 := fun ad σ H Q R f => by
  refine wE.of (pe_exm F.excBase_ValueError (by rw [cx.eK]; exact T.q) (by rw [cx.emg]; exact T.mC) (by rw [cx.eK]; exact T.kC) (cx.gl _ hx) (pa_w [e]) hs hpl hdb) ?_
  refine DA.cons ha DA.nil hs ad σ H _ R fun ad1 vs H1 s1 m1 r1 => ?_
  obtain ⟨v, ev, rv⟩ := r1.inv1
  refine ⟨m, by rw [ev, rv.str_inv], fun a t na nt ne => ?_⟩
  have na2 : upd H1 t (.tup [.str m]) a = none := by rw [upd_ne ne]; exact na
  have s2 : Stp (ad ++ ad1) [] H1 (upd H1 t (.tup [.str m])) := Stp.data nt
  have s3 : Stp (ad ++ ad1) [] (upd H1 t (.tup [.str m])) (upd (upd H1 t (.tup [.str m])) a (exT a C t)) := Stp.data na2
  have m2 := m1.data (o := .tup [.str m]) nt
  have m3 := m2.data (o := exT a C t) na2
  have s4 : Stp ad ad1 H (upd (upd H1 t (.tup [.str m])) a (exT a C t)) := by
    have h1 := s1.trans s2
    rw [List.append_nil] at h1
    have h2 := h1.trans s3
    rwa [List.append_nil] at h2
  refine f ad1 _ _ s4 m3 ?_
  unfold Rp
  exact ⟨a, t, rfl, ⟨upd_same, m1.notIn na⟩, by rw [upd_ne (Ne.symm ne)]; exact upd_same, m1.notIn nt⟩
/-! ### isinstance of it -/
def rIsT (K : PySem.W.Frag) : List V → Hp → VK → Prop := fun xs H Q => ∃ (a C t : Addr) (c : V) (cv : Value) (b : Bool), xs = [.ref a, c] ∧ H a = some (exT a C t) ∧ IsX K C ∧ (∀ u, RelV c u → u = cv) ∧ PySem.W.kitOne K (.ref C) cv = some b ∧ Q (.bl b) H
theorem call_isT : CallR X (.builtin "isinstance") (rIsT X.K) := by
  intro pins s σ H xs us Q I r h
  obtain ⟨a, C, t, c, cv, b, rfl, h1, T, hcv, e, q⟩ := h
  cases r with
  | cons rx rr =>
    cases rr with
    | cons rt rr =>
      cases rr
      cases rx
      have ec := hcv _ rt
      subst ec
      obtain ⟨⟨oe, e1, z, vs, e2, _⟩, _⟩ := (show ObjOk X.prog X.w H s.heap a (exT a C t) from I.hok a _ h1)
      have J : PySem.W.InstAt s.heap a oe C none := ⟨e1, z.1, by unfold PySem.W.notCls; rw [e2] <;> rfl, by rw [z.2] <;> trivial⟩
      have hcl : (PySem.W.clsIn X.K C).isSome = true := by
        obtain ⟨cd, hc, _⟩ := PySem.W.any_some T.xf.hdC
        rw [hc]; rfl
      exact PySem.W.kia_one (PySem.W.kitx_exc hcl T.xf.ga T.xf.gg T.xf.exC T.ha T.hn T.ht T.hm) I.kIn J e (fun z => nomatch z) fun tk => ⟨.bl b, H, I.kept (t' := tk) fun _ _ z => z, rfl, q⟩
theorem isX0 (cx : CxD X P w K mg base N sc k) (T : IsX K C) (hx : sc.names.lookup ("isinstance" : Str) = some .globalImplicit) (hm : mg "isinstance" = none) {c : V} {cv : Value} {bb : Bool} (hp : PE X b (tC c)) (hcv : ∀ u, RelV c u → u = cv)
    (ha : DE X a ρ μ p μ1) (hC : xCl p = some C) (hk : PySem.W.kitOne K (.ref C) cv = some bb)
    (he : starEach [a, b] X.env = (false, eval a X.env) :: starEach [b] X.env) (he2 : starEach [b] X.env = (false, eval b X.env) :: starEach [] X.env) (hpl : (backTo pos (starEach [b] X.env)).any (·.1) = false) :
    DE X (.Call (.Name "isinstance" cp) [a, b] [] pos) ρ μ (.bl bb) μ1 := fun ad σ H Q R f => by
  cases p with
  | exc C' fs vs =>
    cases hC
    refine wE.of (pe_callB call_isX (cx.gl _ hx) (by rw [cx.emg]; exact hm) boot_isinstance (pa_cons (pe_w a) (pa_cons hp pa_nil he2) he) (by decide) (by decide) he hpl) ?_
    refine ha ad σ H _ R fun ad1 v H1 s1 m1 r1 => ?_
    rw [cx.eK] at r1 ⊢
    obtain ⟨a', d, ws, e1, h1, h2, h3, h4⟩ := Rp.exc_inv r1
    subst e1
    refine ⟨a', C, d, fs.zip ws, c, cv, bb, rfl, h1, fun dd hd => ?_, T.xf, ⟨T.ha, T.hn, T.ht, T.hm⟩, hcv, hk, ?_⟩
    · subst hd
      exact h2.1
    · exact f ad1 _ H1 s1 m1 (Rp.bl' _)
  | exm C' mm =>
    cases hC
    refine wE.of (pe_callB call_isT (cx.gl _ hx) (by rw [cx.emg]; exact hm) boot_isinstance (pa_cons (pe_w a) (pa_cons hp pa_nil he2) he) (by decide) (by decide) he hpl) ?_
    refine ha ad σ H _ R fun ad1 v H1 s1 m1 r1 => ?_
    rw [cx.eK] at r1 ⊢
    unfold Rp at r1
    obtain ⟨a', t, e1, ⟨h1, _⟩, _⟩ := r1
    subst e1
    exact ⟨a', C, t, c, cv, bb, rfl, h1, T, hcv, hk, f ad1 _ H1 s1 m1 (Rp.bl' _)⟩
  | _ => cases hC
theorem DE.isX (cx : CxD X P w K mg base N sc k) (T : IsX K C) {C2 : Addr} {bb : Bool} {cp2 : Pos} (hx : sc.names.lookup ("isinstance" : Str) = some .globalImplicit) (hm : mg "isinstance" = none) (hy : sc.names.lookup y = some .globalImplicit) (hmy : mg y = some (.ref C2))
    (ha : DE X a ρ μ p μ1) (hC : xCl p = some C) (hk : PySem.W.kitOne K (.ref C) (.ref C2) = some bb) (hdy : (y == ("__debug__" : Str)) = false := by decide)
    (he : starEach [a, .Name y cp2] X.env = (false, eval a X.env) :: starEach [.Name y cp2] X.env := by rfl) (he2 : starEach [.Name y cp2] X.env = (false, eval (.Name y cp2) X.env) :: starEach [] X.env := by rfl) (hpl : (backTo pos (starEach [.Name y cp2] X.env)).any (·.1) = false := by rfl) :
    DE X (.Call (.Name "isinstance" cp) [a, .Name y cp2] [] pos) ρ μ (.bl bb) μ1 :=
  isX0 cx T hx hm (pe_glob (v := .ref C2) (cx.gl y hy) (by rw [cx.emg]; exact hmy) rfl hdy) (fun u h => h) ha hC hk he he2 hpl
theorem DE.isXB (cx : CxD X P w K mg base N sc k) (T : IsX K C) {ty : String} {bb : Bool} {cp2 : Pos} (hx : sc.names.lookup ("isinstance" : Str) = some .globalImplicit) (hm : mg "isinstance" = none) (hy : sc.names.lookup y = some .globalImplicit) (hmy : mg y = none) (hv : bootBuiltins y = some (.type ty))
    (ha : DE X a ρ μ p μ1) (hC : xCl p = some C) (hk : PySem.W.kitOne K (.ref C) (.type ty) = some bb) (hny : y ≠ "__name__" := by decide) (hdy : (y == ("__debug__" : Str)) = false := by decide)
    (he : starEach [a, .Name y cp2] X.env = (false, eval a X.env) :: starEach [.Name y cp2] X.env := by rfl) (he2 : starEach [.Name y cp2] X.env = (false, eval (.Name y cp2) X.env) :: starEach [] X.env := by rfl) (hpl : (backTo pos (starEach [.Name y cp2] X.env)).any (·.1) = false := by rfl) :
    DE X (.Call (.Name "isinstance" cp) [a, .Name y cp2] [] pos) ρ μ (.bl bb) μ1 :=
  isX0 cx T hx hm (pe_bltn (v := .ty ty) (cx.gl y hy) (by rw [cx.emg]; exact hmy) hv rfl hny hdy) (fun u h => h) ha hC hk he he2 hpl
/-! ### its text -/
def rStrT (K : PySem.W.Frag) : List V → Hp → VK → Prop := fun xs H Q => ∃ (a C t : Addr) (m : Str), xs = [.ref a] ∧ H a = some (exT a C t) ∧ H t = some (.tup [.str m]) ∧ PySem.W.findIn K (.ref C) "__str__" = some (some (.builtin "BaseException.__str__")) ∧ PySem.W.subIn K (.ref C) (.type "BaseException") = some true ∧ Q (.str m) H
theorem call_strT (hu : X.A.units + 2 < cLine) : CallR X (.type "str") (rStrT X.K) := by
  intro pins s σ H xs us Q I r h
  obtain ⟨a, C, t, m, rfl, h1, h2, hs, hB, q⟩ := h
  cases r with
  | cons rx rr =>
    cases rr
    cases rx
    obtain ⟨⟨oe, e1, z, vs, e2, e3⟩, _⟩ := (show ObjOk X.prog X.w H s.heap a (exT a C t) from I.hok a _ h1)
    obtain ⟨_, its, rv, ot, o1, o2, n, o3⟩ := (show ObjOk X.prog X.w H s.heap t (.tup [.str m]) from I.hok t _ h2)
    cases rv with
    | @cons _ u _ us' ru rn =>
      cases rn
      obtain ⟨tk, rfl⟩ := (show ∃ tk, u = Value.str m tk from ru)
      exact PySem.P.str_of_C_one hu ⟨I.kIn, oe, vs, e1, z.1, e2, e3⟩ ⟨ot, n, o1, o2, o3⟩ hs hB ⟨.str m, H, I, ⟨tk, rfl⟩, q⟩
theorem ca_strX (hu : X.A.units + 64 < cLine) (hs : PySem.W.findIn X.K (.ref C) "__str__" = some (some (.builtin "BaseException.__str__"))) (hB : PySem.W.subIn X.K (.ref C) (.type "BaseException") = some true) : CallA X (.type "str") [.exm C m] μ (.str m) :=
  ⟨_, call_strT (by omega), fun ad H vs Q mm r f => by
    obtain ⟨v, e, rv⟩ := r.inv1
    unfold Rp at rv
    obtain ⟨a, t, e1, ⟨h1, _⟩, h2, _⟩ := rv
    rw [e, e1]
    exact ⟨a, C, t, m, rfl, h1, h2, hs, hB, f [] _ H Stp.refl (by rwa [AD.append_nil]) (Rp.str' _)⟩⟩
/-! ### list + list: a new list -/
theorem DE.catO {xs ys : List PV} (ha : DE X a ρ μ p μ1) (hb : DE X b ρ μ1 q μ2) (h1 : asK μ2 p = some xs) (h2 : asK μ2 q = some ys) (hz : xs.length + ys.length ≤ sizeLine) :
    DE X (.BinOp a .Add b pos) ρ μ (.obj μ2.length) (μ2 ++ [.lst (xs ++ ys)]) := fun ad σ H Q R f => by
  refine wE.of (pe_op op_cat (pe_w a) (pe_w b)) (ha ad σ H _ R fun ad1 v H1 s1 m1 r1 => hb (ad ++ ad1) σ H1 _ (R.mono s1 m1) fun ad2 u H2 s2 m2 r2 => ?_)
  obtain ⟨l, vs, e1, hh, rl⟩ := (r1.mono s2).asK_inv h1 m2
  obtain ⟨c, ws, e2, hc, rc⟩ := r2.asK_inv h2 m2
  refine ⟨l, c, vs, ws, e1, e2, hh, hc, by rw [← rl.length, ← rc.length]; exact hz, fun a ha => ?_⟩
  have s3 : Stp (ad ++ ad1 ++ ad2) [a] H2 (upd H2 a (.lst (vs ++ ws))) := Stp.fresh ha
  refine f (ad1 ++ (ad2 ++ [a])) _ _ (s1.trans (s2.trans s3)) ?_ ?_
  · rw [← AD.append_assoc, ← AD.append_assoc]
    exact m2.push ha ⟨_, upd_same, RpL.mono (K := X.K) s3 _ _ (rl.append rc)⟩
  · rw [← AD.append_assoc, ← AD.append_assoc]
    unfold Rp
    exact ⟨a, rfl, AD.at_snoc m2.len⟩
end
/-! ### an exception whose class has its own __init__, as a value -/
section
variable {X : Cx} {P : Program} {w : World} {K : PySem.W.Frag} {mg : Str → Option Value} {base : Heap} {N : List Str} {sc : Scope} {k j : Nat} {ρ ρ' : Env} {μ μ1 μ2 μ' : Mem} {e a b : Expr} {es : List Expr} {pos cp p p2 p3 : Pos} {D : AEnds} {st : Stmt} {C C0 : Addr} {n : Int} {y x : Str}
/-- C(e, ..), C's own __init__ keeping sp; the exception is kept -/
def tVaO (C : Addr) (sp : Sp) (ta : TA) : TE := fun σ H Q => ta σ H fun vs H1 => vs.length ≤ 1000 ∧ ∀ a, H1 a = none → sp (.ref a :: vs) (upd H1 a (exo a C none))
  (fun v H2 => v = .non ∧ ∃ (d : Addr) (fs : List (Str × V)), H2 a = some (exo a C (some d)) ∧ H2 d = some (exd d fs) ∧ H1 d = none ∧ Q (.ref a) (upd (upd (del H2 a) d (.xd fs)) a (exH a (.ref C) (some d)))) (fun _ _ _ => False)
theorem pe_oex {CX : CXT} {fI : Addr} {fd : FuncData} {ps : List Str} {sp : Sp} {ta : TA} (T : OexC X.K C) (iC : PySem.W.findIn X.K (.ref C) "__init__" = some (some (.ref fI))) (tI : PySem.W.typeIn X.K (.ref fI) = some (.type "function"))
    (F1 : FnOk X.prog X.w X.K X.mg X.base CX k fI fd ps sp) (hr : Room (k + 1) X.A) (hb : Binds X.K fd ps []) (hx : Passes CX X (fun _ _ _ => False)) (hg : Gl X x) (hm : X.mg x = some (.ref C)) (ha : PA X (e :: es) ta)
    (hdb : (x == ("__debug__" : Str)) = false := by decide) (he : starEach (e :: es) X.env = (false, eval e X.env) :: starEach es X.env := by rfl) (hpl : (backTo pos (starEach es X.env)).any (·.1) = false := by rfl) :
    PE X (.Call (.Name x p) (e :: es) [] pos) (tVaO C sp ta) := by
  refine ⟨fun pins s σ H Q I h => ?_⟩
  obtain ⟨nm, q, N, bs, bm, sn, sub, ab, col, dd, k0, k1, k2, k3, k5, hC, hbm⟩ := T.cls
  refine wpAny_Call_Name_kw (ld_glob I hg hm ?_ hdb)
  refine PySem.W.callWith_K (h₀ := X.base) I.ok.mod.kin T.kC (thn (ha.run pos pins s σ H _ I h) fun us s1 ⟨vs, H1, I1, r1, hz, q1⟩ => ⟨I1.kIn, ?_⟩) he hpl
  show wpAny _ _ (call (.ref C) us) _ _ _
  obtain ⟨hp, g, dr, tk, os⟩ := s1
  have hsz : hp.objs.size ≤ hp.objs.size + 1 := Nat.le_succ _
  have hn : H1 (hp.objs.size + 1) = none := I1.hok.fresh hsz
  have hq := q1 (hp.objs.size + 1) hn
  have kk : ∀ b o, hp.get? b = some o → ((hp.push (PySem.W.kdv_tup us)).push (PySem.HandSPX.excO C hp.objs.size)).get? b = some o := fun b o e => Heap.get?_push_of_some _ (Heap.get?_push_of_some _ e)
  have hget : ((hp.push (PySem.W.kdv_tup us)).push (PySem.HandSPX.excO C hp.objs.size)).get? (hp.objs.size + 1) = some (PySem.HandSPX.excO C hp.objs.size) := by heap_get
  have I2 : Inv X pins σ (upd H1 (hp.objs.size + 1) (exo (hp.objs.size + 1) C none)) ⟨(hp.push (PySem.W.kdv_tup us)).push (PySem.HandSPX.excO C hp.objs.size), g, dr, tk, os⟩ :=
    I1.laid (t' := tk) (a := hp.objs.size + 1) (o := exo (hp.objs.size + 1) C none) (h' := (hp.push (PySem.W.kdv_tup us)).push (PySem.HandSPX.excO C hp.objs.size)) kk hsz (exo_ok hget)
  have r2 : Vals (V.ref (hp.objs.size + 1) :: vs) (Value.ref (hp.objs.size + 1) :: us) := .cons rfl r1
  have hl : (Value.ref (hp.objs.size + 1) :: us ++ []).length = ps.length := by
    have e := r2.length
    rw [F1.len _ _ _ _ hq] at e
    rw [List.append_nil]
    exact e.symm
  have b2 := hb _ (Value.ref (hp.objs.size + 1) :: us) I2.kIn hl
  rw [List.append_nil] at b2
  have hus : us.length ≤ sizeLine := by
    rw [← Paired.length r1, sizeLine_eq]
    omega
  refine wpAny_call (PySem.HandSPX.call_own F.excBase_ValueError (fun Y => PySem.HandSPX.refsVE_contains Y bm hbm) (I1.kIn _ _ hC) (PySem.W.looks_findIn I1.kIn iC) (fun self => PySem.W.bind_fn I1.kIn self tI) hus
    (codeAny_mono (F1.run _ X.stack _ _ ⟨Value.ref (hp.objs.size + 1) :: us, []⟩ (Value.ref (hp.objs.size + 1) :: us) _ _ (fun _ _ _ => False) (hr.make C us []) (I2.env0.make C us []) b2 r2 hq) fun r s' hq' => ?_))
  cases r with
  | error er => exact hx pins σ _ _ er s' I2 hq'
  | ok fl =>
    cases fl with
    | ret u =>
      obtain ⟨v, H2, os2, bare2, un2, hok2, rv, ev, d, fs, ea, ed, hd1, q2⟩ := hq'
      subst ev
      obtain ⟨h2, g2, d2, t2, os'⟩ := s'
      obtain ⟨t0, G, J, kG, ge, hoe, na⟩ := mk_end0 (d2 := d2) (t2 := t2) I1 hsz kk un2 hok2 os2 bare2 ea ed hd1
      have J2 := J.laidN (t' := t2) (o := exH (hp.objs.size + 1) (.ref C) (some d)) kG ge na ⟨⟨_, hoe, ⟨rfl, rfl⟩, _, rfl⟩, ⟨_, hoe⟩, fun h1 h2 ⟨oe, e1, z⟩ k => ⟨oe, k _ e1, z⟩⟩
      exact ⟨rv, ⟨.ref (hp.objs.size + 1), _, J2, rfl, q2⟩⟩
    | next => exact False.elim hq'
    | brk => exact False.elim hq'
    | cont => exact False.elim hq'
/-- NoNumber(e) as a value -/
theorem DE.mkNo (cx : CxD X P w K mg base N sc k) (T : NoTxt K mg st C C0) (F : ∀ fI fd, Fun K "__init__" "NoNumber.__init__" st fI fd → FnOk P w K mg base (L2.CX P w) j fI fd ["self", "number"] (spNo C)) (hj : j + 1 ≤ k) (hx : sc.names.lookup ("NoNumber" : Str) = some .globalImplicit) (ha : DE X e ρ μ (.int n) μ1) (bn : B 100 n)
    (he : starEach [e] X.env = (false, eval e X.env) :: starEach [] X.env := by rfl) (hpl : (backTo p2 (starEach [] X.env)).any (·.1) = false := by rfl) : DE X (.Call (.Name "NoNumber" p3) [e] [] p2) ρ μ (excP (noX C n)) μ1 := fun ad σ H Q R f => by
  obtain ⟨fI, fd, hF, iC, tI, hb⟩ := T.ini
  have F1 : FnOk X.prog X.w X.K X.mg X.base (L2.CX X.prog X.w) j fI fd ["self", "number"] (spNo C) := by
    rw [cx.eP, cx.ew, cx.eK, cx.emg, cx.eb]
    exact F fI fd hF
  refine wE.of (pe_oex (by rw [cx.eK]; exact T.T) (by rw [cx.eK]; exact iC) (by rw [cx.eK]; exact tI) F1 (cx.room.mono hj) (by rw [cx.eK]; exact hb) passE0 (cx.gl _ hx) (by rw [cx.emg]; exact T.mC) (pa_w [e]) (by decide) he hpl) ?_
  refine DA.cons ha DA.nil he ad σ H _ R fun ad1 vs H1 s1 m1 r1 => ?_
  have ev := r1.one_int
  subst ev
  refine ⟨Nat.le_of_ble_eq_true rfl, fun a na => ⟨a, n, rfl, bn, upd_same, fun H' dx kp hdx hne => ?_⟩⟩
  have hdx1 : H1 dx = none := by
    cases q : H1 dx with
    | none => rfl
    | some o =>
      have := kp dx o (by rw [upd_ne hne]; exact q)
      rw [hdx] at this
      cases this
  refine ⟨rfl, dx, [(("number" : Str), V.int n)], upd_same, by rw [upd_ne hne]; exact upd_same, hdx1, ?_⟩
  generalize hH : upd (upd (del (upd (upd H' dx (exd dx [(("number" : Str), V.int n)])) a (exo a C (some dx))) a) dx (.xd [(("number" : Str), V.int n)])) a (exH a (.ref C) (some dx)) = H3
  have k3 : ∀ b o, H1 b = some o → H3 b = some o := fun b o q => by
    have h1 : b ≠ a := ne_of_none q na
    have h2 : b ≠ dx := ne_of_none q hdx1
    rw [← hH, upd_ne h1, upd_ne h2, del_ne h1, upd_ne h1, upd_ne h2]
    exact kp b o (by rw [upd_ne h1]; exact q)
  have e3 : H3 dx = some (.xd [(("number" : Str), V.int n)]) := by rw [← hH, upd_ne hne]; exact upd_same
  have e4 : H3 a = some (exH a (.ref C) (some dx)) := by rw [← hH]; exact upd_same
  have s3 : Stp (ad ++ ad1) [] H1 H3 := ⟨fun b o q _ => k3 b o q, fun b o q => ⟨o, k3 b o q⟩, fun _ h => nomatch h⟩
  have m3 : Mst (ad ++ ad1) X.K H3 μ1 := m1.mono0 s3 fun b hb => by
    obtain ⟨o, ho⟩ := m1.tracked hb
    rw [ho, k3 b o ho]
  have s4 : Stp ad ad1 H H3 := by
    have := s1.trans s3
    rwa [List.append_nil] at this
  refine f ad1 _ H3 s4 m3 ?_
  unfold excP Rp
  exact ⟨a, some dx, [.int n], rfl, ⟨e4, m1.notIn na⟩, ⟨e3, m1.notIn hdx1⟩, rfl, RpL.cons (Rp.int' _) RpL.nil⟩
end
end L3

/-! L3: more of dicts with whole numbers or texts as keys: in, pop, sorted, walks over values and items (the dict locked); methods without arguments. -/
namespace L3
open PySem PySem.Spec L2 PyProof.Rows
section
variable {K : PySem.W.Frag} {ad : AD} {H : Hp}
end
section
variable {X : Cx} {P : Program} {w : World} {K : PySem.W.Frag} {mg : Str → Option Value} {base : Heap} {N : List Str} {sc : Scope} {k j n : Nat} {x m : Str} {A : ASp} {C : Addr} {ρ ρ' : Env} {μ μ1 μ2 μ' : Mem} {p q r : PV} {e o a b tg : Expr} {es : List Expr} {pos cp apos : Pos} {st : Stmt} {D : AEnds}
/-! ### the dict stands locked while the statement runs -/
end
end L3

/-! L3: kept marks: the dict of numbers and their places, sorted whole numbers, `a, o[i] = ..` from a list. -/
namespace L3
open PySem PySem.Spec L2 PyProof.Rows
/-! ### sorted -/
def srtI (xs : List Int) : List Int := xs.mergeSort (fun a b => decide (a ≤ b))
/-! ### the marks -/
def nmS (s : Int) (h : Fin 4) (t : Bool) (p : Int × Int) : Int := s + nuW h t p
def kpD (s : Int) (h : Fin 4) (t : Bool) (ps : List (Int × Int)) : MO := .dK (ps.map fun p => Sum.inl (nmS s h t p)) (ps.map ptP)
def kpO (C : Addr) (s : Int) (h : Fin 4) (t : Bool) (md : Nat) : MO := .ins C ["spiral", "marks"] [spP s h t, .obj md]
section
variable {s : Int} {h : Fin 4} {t : Bool}
/-! ### the eight places round one -/
/-! ### the nearest one -/
end
section
variable {X : Cx} {P : Program} {w : World} {K : PySem.W.Frag} {mg : Str → Option Value} {base : Heap} {N : List Str} {sc : Scope} {k : Nat} {x : Str} {ρ ρ' : Env} {μ μ1 μ2 μ' : Mem} {e a b : Expr} {pos px pt sp : Pos} {D : AEnds}
end
end L3

namespace L3
open PySem PySem.Spec L2 PyProof.Rows
theorem vw_asK {μ : Mem} {p : PV} {xs : List PV} (h : asK μ p = some xs) : vw μ p = .lst xs := by
  cases p with
  | lst ys => cases h; rfl
  | obj k =>
    unfold asK at h
    dsimp only at h
    unfold vw
    dsimp only
    cases q : μ[k]? with
    | none => rw [q] at h; cases h
    | some o =>
      rw [q] at h
      cases o <;> first | (cases h; rfl) | cases h
  | _ => cases h
section
variable {X : Cx} {μ : Mem} {p q : PV} {ns ms : List Int}
end
/-! ### the fields of kept marks -/
section
variable {a b : PV} {md : Nat}
end
end L3

namespace L3
open PySem PySem.Spec L2 PyProof.Rows
section
variable {X : Cx} {P : Program} {w : World} {K : PySem.W.Frag} {mg : Str → Option Value} {base : Heap} {N : List Str} {sc : Scope} {k n : Nat} {ρ : Env} {μ μ1 μ2 : Mem} {e o : Expr} {pos : Pos}
end
theorem below_intL {n : Nat} : ∀ ns : List Int, belowL n (ns.map PV.int) = true
  | [] => by unfold belowL; rfl
  | m :: ns => by
    rw [List.map_cons]
    unfold belowL
    rw [below_intL ns]
    unfold below
    rfl
end L3

namespace L3
open PySem PySem.Spec L2 PyProof.Rows
theorem below_deck {n : Nat} (d : Deck) : belowM n (deckMO d) = true := by
  show belowL n [.lst (d.cells.map PV.int), .int d.begun, .int d.left, .int d.mixed, .int d.total] = true
  have h1 : below n (.lst (d.cells.map PV.int)) = true := by
    unfold below
    exact below_intL _
  simp only [belowL, h1, Bool.true_and]
  simp [below]
theorem fin_dropD {μ ex : Mem} {p r : PV} {Q : PV → Mem → Prop} {k : Nat} {d : Deck} (h : Q r (μ.set k (deckMO d))) (e : p = r) (b : below μ.length r = true) : ∃ r' μ', Done μ p (μ.set k (deckMO d) ++ ex) r' μ' ∧ Q r' μ' :=
  ⟨r, _, by rw [e]; exact .drop _ _ _ (chg_set (below_deck d)) b, h⟩
/-- a place about which numbers are marked -/
def PtB (p : Int × Int) : Prop := -999999990 ≤ p.1 ∧ p.1 ≤ 999999990 ∧ -999999990 ≤ p.2 ∧ p.2 ≤ 999999990
section
variable {s : Int} {h : Fin 4} {t : Bool} {q p : Int × Int} {ps : List (Int × Int)} {zs : List Int} {i : Nat} {b : Option Int} {le : Int}
end
section
variable {X : Cx} {μ : Mem}
end
end L3

namespace L3
open PySem PySem.Spec L2 PyProof.Rows
/-- what marks keep -/
def MkOk (h : Fin 4) (t : Bool) (ps : List (Int × Int)) : Prop := ps.Nodup ∧ ps.length ≤ 60 ∧ ∀ p ∈ ps, nuW h t p ≤ 200000000000000000000
theorem MkOk.nil {h : Fin 4} {t : Bool} : MkOk h t [] := ⟨List.nodup_nil, by decide, nofun⟩
end L3

namespace L3
open PySem PySem.Spec L2 PyProof.Rows
section
variable {K : PySem.W.Frag} {ad : AD} {H : Hp}
end
section
variable {X : Cx} {P : Program} {w : World} {K : PySem.W.Frag} {mg : Str → Option Value} {base : Heap} {N : List Str} {sc : Scope} {k n : Nat} {ρ : Env} {μ μ1 μ2 : Mem} {o e tg : Expr} {cp pos : Pos} {D : AEnds} {sts : List Stmt}
end
/-! ### the marks about a place -/
end L3

namespace L3
open PySem PySem.Spec L2
/-! ### a comprehension over what is drawn -/
section
variable {X : Cx} {P : Program} {w : World} {K : PySem.W.Frag} {mg : Str → Option Value} {base : Heap} {N : List Str} {sc scope : Scope} {k j : Nat} {x : Str} {A : ASp} {ρ ρ' : Env} {μ μ1 μ2 μ3 μ' : Mem} {p q r : PV} {e a b c o tg : Expr} {es : List Expr} {pos cp : Pos} {D : AEnds} {kb : Bool} {st : Stmt} {sts : List Stmt}
theorem comp_rdW {elt iter : Expr} {ifs : List Expr} {own : List (Str × Nat)} {is : List Nat} {ff : PV → Option (List PV)} {Qa : PV → Mem → Prop} (cx : CxF X P w K mg base N sc k)
    (ok : blkC N sc scope own = true) (tgt : Tgt P w K mg base N scope k tg is ff) (his : ∀ i ∈ is, i ∈ own.map (·.2))
    (hi : DIW X tg iter ρ μ fun xs M μ1 => ∃ Iv : Nat → List PV → Mem → Prop, Iv 0 [] μ1 ∧ (∀ i ys m, Iv i ys m → M m) ∧
      (∀ (i : Nat) p ys m, xs[i]? = some p → Iv i ys m → ∃ qs, ff p = some qs ∧ ∀ X', CxD X' P w K mg base N scope k →
        WTs X' ifs (setE (wipeE ρ (own.map (·.2))) is qs) m fun b m2 => if b = true then (∀ X', CxD X' P w K mg base N scope k → WE X' elt (setE (wipeE ρ (own.map (·.2))) is qs) m2 fun y m3 => ys.length < sizeLine ∧ Iv (i + 1) (ys ++ [y]) m3) else Iv (i + 1) ys m2) ∧
      (∀ ys m, Iv xs.length ys m → Qa (.lst ys) m)) :
    BlkOk X.N X.env.scope scope own ∧ ∃ (wi : TI) (g : TG) (tt : TT) (te : TE), PI X tg iter wi ∧
      (∀ (s0 : Shared) (H0 : Hp) (C : Addr) (cl : List (Str × Addr)) (fp : List Addr), PG (X.blk s0 H0 scope (compEnvC scope cl C X.env) fp) tg g) ∧
      (∀ (s0 : Shared) (H0 : Hp) (C : Addr) (cl : List (Str × Addr)) (fp : List Addr), PTs (X.blk s0 H0 scope (compEnvC scope cl C X.env) fp) ifs tt) ∧
      (∀ (s0 : Shared) (H0 : Hp) (C : Addr) (cl : List (Str × Addr)) (fp : List Addr), PE (X.blk s0 H0 scope (compEnvC scope cl C X.env) fp) elt te) ∧
      ∀ ad σ H (Q : VK), Rst ad X.K H σ ρ μ → (∀ ad2 v H' p μ', Stp ad ad2 H H' → Mst (ad ++ ad2) X.K H' μ' → Rp (ad ++ ad2) X.K H' p v → Qa p μ' → Q v H') → tLc wi g tt te (own.map (·.2)) σ H Q := by
  obtain ⟨wi, hpi, hwi⟩ := hi
  obtain ⟨g, hg, hgr⟩ := tgt.ex
  have hb : BlkOk X.N X.env.scope scope own := by
    rw [cx.eN, cx.esc]
    exact blkOk_by ok
  refine ⟨hb, wi, g, (fun σ' H' Q' => ∀ (s0 : Shared) (H0 : Hp) (C : Addr) (cl : List (Str × Addr)) (fp : List Addr), wTs (X.blk s0 H0 scope (compEnvC scope cl C X.env) fp) ifs σ' H' Q'),
    (fun σ' H' Q' => ∀ (s0 : Shared) (H0 : Hp) (C : Addr) (cl : List (Str × Addr)) (fp : List Addr), wE (X.blk s0 H0 scope (compEnvC scope cl C X.env) fp) elt σ' H' Q'), hpi,
    (fun s0 H0 C cl fp => hg _ (cx.toCxD.blk s0 H0 C cl fp)), (fun s0 H0 C cl fp => ⟨fun pins s σ' H' Q' I h => h s0 H0 C cl fp pins s I⟩), (fun s0 H0 C cl fp => ⟨fun pins s σ' H' Q' I h => (h s0 H0 C cl fp).go pins s I⟩), fun ad σ H Q R f => ?_⟩
  refine hwi ad σ H _ R fun ad1 J H1 xs M μ1 s1 m1 wk hq0 => ?_
  obtain ⟨Iv, h0, hM, turn, fin⟩ := hq0
  intro l hl
  -- the list in the making: at l, tracked, set aside
  let G : Nat → Hp → Prop := fun i H' => ∃ adx m ys vs, (∀ o', Stp (ad ++ ad1) adx H1 (upd H' l o')) ∧ Mst ((ad ++ ad1 ++ adx).aside l) X.K H' m ∧ H' l = some (.lst vs) ∧
    Keep X.K (ad ++ ad1) H1 ((ad ++ ad1 ++ adx).aside l) H' ∧ RpL ((ad ++ ad1 ++ adx).aside l) X.K H' ys vs ∧ Iv i ys m
  have st0 : ∀ o', Stp (ad ++ ad1) [] H1 (upd (upd H1 l (.lst [])) l o') := fun o' => by rw [upd_upd]; exact Stp.data hl
  refine ⟨fun i mm H' => mm = xs.length - i ∧ i ≤ xs.length ∧ G i H', ⟨_, rfl, Nat.zero_le _, [], μ1, [], [], st0, by rw [AD.append_nil]; exact m1.aside hl, upd_same, by rw [AD.append_nil]; exact fun p v r => r.aside hl, RpL.nil, h0⟩, ?_⟩
  rintro i mm H' ⟨rfl, hle, adx, m, ys, vs, s2, m2, hl2, kp, ry, iv⟩
  obtain ⟨w1, w2, w3⟩ := wk _ H' m kp m2 (hM i ys m iv)
  by_cases hlt : i < xs.length
  · refine .inr ⟨w1 i hlt, G (i + 1), fun H3 g3 => ⟨xs.length - (i + 1), by omega, rfl, hlt, g3⟩, fun x H2 y => ?_⟩
    have e : xs[i]? = some xs[i] := by simp [hlt]
    obtain ⟨s3, m3, r3, kp3⟩ := w3 i _ x H2 e y
    have hl3 : H2 l = some (.lst vs) := s3.asideK m2 hl2
    have ry3 := kp3.all _ _ ry
    have E2 : RpE ((ad ++ ad1 ++ adx).aside l) X.K H2 ρ σ := ⟨R.e.len, fun j p ej => by
      obtain ⟨v, e1, r1⟩ := R.e.get j p ej
      exact ⟨v, e1, kp3 _ _ (kp _ _ (r1.mono s1))⟩⟩
    rw [cx.eK] at r3
    obtain ⟨qs, hq, ht⟩ := turn i _ ys m e iv
    refine hgr _ H2 _ qs x _ _ hq r3 fun us ru => ?_
    rw [← cx.eK] at ru
    have hw : wipe (setA (wipe σ (own.map (·.2))) is us) (own.map (·.2)) = wipe σ (own.map (·.2)) := by
      rw [wipe_setA his, wipe_idem _ _ fun _ h => h]
    refine ⟨hw, ?_⟩
    have R3 : Rst ((ad ++ ad1 ++ adx).aside l) X.K H2 (setA (wipe σ (own.map (·.2))) is us) (setE (wipeE ρ (own.map (·.2))) is qs) m := ⟨m3, RpE.setA is (E2.wipe _) ru⟩
    have st3 : ∀ {ad4 : List Addr} {H4 : Hp}, Stp ((ad ++ ad1 ++ adx).aside l) ad4 H2 H4 → ∀ o', Stp (ad ++ ad1) (adx ++ ad4) H1 (upd H4 l o') := fun {ad4 H4} s4 o' => by
      have s34 : Stp ((ad ++ ad1 ++ adx).aside l) ad4 H' H4 := by
        have z := s3.trans (by rw [AD.append_nil]; exact s4)
        simpa using z
      have a := s2 (.lst vs)
      refine ⟨fun c u hc hn => ?_, fun c u hc => ?_, fun c hc => ?_⟩
      · have ne : c ≠ l := ne_of_none hc hl
        rw [upd_ne ne]
        have h1 := a.keep c u hc hn
        rw [upd_ne ne] at h1
        refine s34.keep c u h1 fun hm => ?_
        rcases AD.os_append (show c ∈ (ad ++ ad1 ++ adx).os from hm) with z | z
        · exact hn z
        · have := a.new c z
          rw [this] at hc
          cases hc
      · have ne : c ≠ l := ne_of_none hc hl
        obtain ⟨u1, h1⟩ := a.there c u hc
        rw [upd_ne ne] at h1
        obtain ⟨u2, h2⟩ := s34.there c u1 h1
        exact ⟨u2, by rw [upd_ne ne]; exact h2⟩
      · rcases List.mem_append.mp hc with z | z
        · exact a.new c z
        · have hn := s34.new c z
          cases q : H1 c with
          | none => rfl
          | some u =>
            have ne : c ≠ l := ne_of_none q hl
            obtain ⟨u1, h1⟩ := a.there c u q
            rw [upd_ne ne, hn] at h1
            cases h1
    -- the tests, then the element: in every block of that scope
    intro s0 H0 C cl fp
    refine ht _ (cx.toCxD.blk s0 H0 C cl fp) _ _ H2 _ R3 fun ad4 b H4 m4 s4 M4 q4 => ?_
    have hl4 : H4 l = some (.lst vs) := s4.asideK m3 hl3
    have ry4 := RpL.mono (K := X.K) s4 _ _ ry3
    have R4 := R3.mono s4 M4
    have kp4 : Keep X.K (ad ++ ad1) H1 ((ad ++ ad1 ++ adx).aside l ++ ad4) H4 := (kp.trans kp3).trans s4.kept
    cases b with
    | false =>
      rw [if_neg (by decide)] at q4 ⊢
      exact ⟨adx ++ ad4, m4, ys, vs, st3 s4, by rw [← AD.append_assoc]; exact M4, hl4, by rw [← AD.append_assoc]; exact kp4, by rw [← AD.append_assoc]; exact ry4, q4⟩
    | true =>
      rw [if_pos rfl] at q4 ⊢
      intro s0' H0' C' cl' fp'
      refine q4 _ (cx.toCxD.blk s0' H0' C' cl' fp') _ _ H4 _ R4 fun ad5 u H5 y m5 s5 M5 r5 q5 => ?_
      have hl5 : H5 l = some (.lst vs) := Stp.asideK (ad := ad ++ ad1 ++ adx ++ ad4) s5 M4 hl4
      have ry5 := RpL.mono (K := X.K) s5 _ _ ry4
      refine ⟨vs, hl5, by rw [← ry.length]; exact q5.1, ?_⟩
      have ea : (ad ++ ad1 ++ adx).aside l ++ ad4 ++ ad5 = (ad ++ ad1 ++ (adx ++ (ad4 ++ ad5))).aside l := by
        rw [AD.aside_app, AD.aside_app, AD.append_assoc, AD.append_assoc]
      rw [ea] at M5 r5 ry5
      have kp5 : Keep X.K (ad ++ ad1) H1 ((ad ++ ad1 ++ (adx ++ (ad4 ++ ad5))).aside l) H5 := by
        have := kp4.trans s5.kept
        rwa [ea] at this
      refine ⟨adx ++ (ad4 ++ ad5), m5, ys ++ [y], vs ++ [u], fun o' => ?_, M5.asideW, upd_same, kp5.asideW, (ry5.append (RpL.cons r5 RpL.nil)).asideW, q5.2⟩
      rw [upd_upd]
      exact st3 (s4.trans s5) o'
  · have e : i = xs.length := by omega
    subst e
    have sl := s2 (.lst vs)
    have eu : upd H' l (.lst vs) = H' := by
      funext c
      by_cases hc : c = l
      · subst hc; rw [upd_same]; exact hl2.symm
      · exact upd_ne hc
    rw [eu] at sl
    refine .inl ⟨w2, f (ad1 ++ adx) (.ref l) H' (.lst ys) m (s1.trans sl) (by rw [← AD.append_assoc]; exact m2.back) ?_ (fin ys m iv)⟩
    rw [← AD.append_assoc]
    unfold Rp
    exact ⟨l, vs, rfl, ⟨hl2, fun z => (List.nodup_cons.mp m2.nd).1 z⟩, ry.back⟩

theorem WE.compW {elt iter : Expr} {ifs : List Expr} {own : List (Str × Nat)} {is : List Nat} {ff : PV → Option (List PV)} {Qa : PV → Mem → Prop} (cx : CxF X P w K mg base N sc k)
    (ok : blkC N sc scope own = true) (tgt : Tgt P w K mg base N scope k tg is ff) (his : ∀ i ∈ is, i ∈ own.map (·.2))
    (hi : DIW X tg iter ρ μ fun xs M μ1 => ∃ Iv : Nat → List PV → Mem → Prop, Iv 0 [] μ1 ∧ (∀ i ys m, Iv i ys m → M m) ∧
      (∀ (i : Nat) p ys m, xs[i]? = some p → Iv i ys m → ∃ qs, ff p = some qs ∧ ∀ X', CxD X' P w K mg base N scope k →
        WTs X' ifs (setE (wipeE ρ (own.map (·.2))) is qs) m fun b m2 => if b = true then (∀ X', CxD X' P w K mg base N scope k → WE X' elt (setE (wipeE ρ (own.map (·.2))) is qs) m2 fun y m3 => ys.length < sizeLine ∧ Iv (i + 1) (ys ++ [y]) m3) else Iv (i + 1) ys m2) ∧
      (∀ ys m, Iv xs.length ys m → Qa (.lst ys) m))
    (hs : ∀ x, foldedSetIterable iter X.env x = pure x := by intro _; rfl) : WE X (.ListComp elt [⟨tg, iter, ifs, 0⟩] scope pos) ρ μ Qa := fun ad σ H Q R f => by
  obtain ⟨hb, wi, g, tt, te, hpi, hg, ht, he, rd⟩ := comp_rdW (Qa := Qa) cx ok tgt his hi
  exact wE.of (pe_lc cx.calm cx.nd' hpi hb hg ht he hs) (rd ad σ H Q R f)
end
/-- places about one, taken up row by row -/
def MarkI (bx bY : Int) (qs : List (Int × Int)) (i j : Nat) : Prop :=
  qs.Nodup ∧ qs.length ≤ 7 * i + j ∧ ∀ q ∈ qs, (bx - 3 ≤ q.1 ∧ q.1 ≤ bx + 3 ∧ bY - 3 ≤ q.2 ∧ q.2 ≤ bY + 3) ∧ (q.1 < bx + ((i : Nat) : Int) - 3 ∨ (q.1 = bx + ((i : Nat) : Int) - 3 ∧ q.2 < bY + ((j : Nat) : Int) - 3))
section
variable {bx bY : Int} {qs : List (Int × Int)} {i j : Nat}
theorem MarkI.old (m : MarkI bx bY qs i j) : MarkI bx bY qs i (j + 1) := ⟨m.1, by have := m.2.1; omega, fun q hq => by
  obtain ⟨h1, h2⟩ := m.2.2 q hq
  exact ⟨h1, by omega⟩⟩
theorem MarkI.new (m : MarkI bx bY qs i j) (hi : i < 7) (hj : j < 7) : MarkI bx bY (qs ++ [(bx + ((i : Nat) : Int) - 3, bY + ((j : Nat) : Int) - 3)]) i (j + 1) := by
  refine ⟨?_, ?_, fun q hq => ?_⟩
  · rw [List.nodup_append]
    refine ⟨m.1, by simp, fun a ha b hb e => ?_⟩
    rw [List.mem_singleton] at hb
    subst hb
    subst e
    obtain ⟨_, h2⟩ := m.2.2 _ ha
    dsimp only at h2
    omega
  · rw [List.length_append, List.length_singleton]
    have := m.2.1
    omega
  · rcases List.mem_append.mp hq with hq | hq
    · obtain ⟨h1, h2⟩ := m.2.2 q hq
      exact ⟨h1, by omega⟩
    · rw [List.mem_singleton.mp hq]
      dsimp only
      omega
theorem MarkI.row (m : MarkI bx bY qs i 7) : MarkI bx bY qs (i + 1) 0 := ⟨m.1, by have := m.2.1; omega, fun q hq => by
  obtain ⟨h1, h2⟩ := m.2.2 q hq
  exact ⟨h1, by omega⟩⟩
theorem MarkI.ok (m : MarkI bx bY qs 7 0) (h : Fin 4) (t : Bool) (hb : PtB (bx, bY)) : MkOk h t qs := by
  obtain ⟨b1, b2, b3, b4⟩ := hb
  dsimp only at b1 b2 b3 b4
  refine ⟨m.1, by have := m.2.1; omega, fun p hp => ?_⟩
  obtain ⟨h1, _⟩ := m.2.2 p hp
  have := nu_le h t (p := p) ⟨by omega, by omega, by omega, by omega⟩
  omega
end
end L3

/-! L3: a method that raises. -/
namespace L3
open PySem PySem.Spec L2 PyProof.Rows
section
variable {X : Cx} {CX : CXT} {k : Nat} {f C : Addr} {fd : FuncData} {ps : List Str} {sp : Sp} {E : L2.St → XK} {m : Str} {pos apos : Pos} {e o : Expr} {es : List Expr} {ta : TE} {t : TA}
end
section
variable {X : Cx} {P : Program} {w : World} {K : PySem.W.Frag} {mg : Str → Option Value} {base : Heap} {N : List Str} {sc : Scope} {k j n : Nat} {x m qual : Str} {A : ASp} {C : Addr} {ρ ρ' : Env} {μ μ1 μ2 μ' : Mem} {p q r : PV} {e o a b : Expr} {es : List Expr} {pos cp apos : Pos} {D : AEnds} {st : Stmt} {ps : List Str} {z : EX}
theorem MDef.okX (d : MDef K C m qual st ps) (S : FnScope N ps (defScope st)) (len : ∀ args μ Q E, A args μ Q E → args.length = ps.length)
    (body : ∀ (X : Cx) (args : List PV) (μ : Mem) (Q : PV → Mem → Prop) (E : EX → Mem → Prop), CxF X P w K mg base N (defScope st) k → A args μ Q E → DSs X (defBody st) (entry N args) μ (fnEndsX μ Q E)) : MethA P w K mg base (k + 1) C m A := by
  obtain ⟨f, fd, F, M, B⟩ := d.ex
  exact ⟨f, fd, ps, FnOk.ofX F S len body, M, B⟩
end
end L3

/-! L3: what marks tell, whole: any order, turned, greater; list(a list) as an object; sorted pairs. -/
namespace L3
open PySem PySem.Spec L2 PyProof.Rows
section
variable {X : Cx} {P : Program} {w : World} {K : PySem.W.Frag} {mg : Str → Option Value} {base : Heap} {N : List Str} {sc : Scope} {k : Nat} {ρ : Env} {μ μ1 : Mem} {e : Expr} {pos cp : Pos} {p q : PV}
end
/-! ### sorted pairs -/
section
variable {K : PySem.W.Frag} {ad : AD} {H : Hp}
end
section
variable {X : Cx} {μ : Mem} {p : PV}
end
/-! ### what marks tell -/
section
variable {s m : Int} {h : Fin 4} {t : Bool} {q p1 : Int × Int} {ps qs : List (Int × Int)} {b : Bx}
def nowR (s : Int) (h : Fin 4) (t : Bool) (ps : List (Int × Int)) : List Int := srtI (ps.map (nmS s h t))
theorem MkOk.left (M : MkOk h t ps) : MkOk (h + 1) t (ps.map lefP) := by
  refine ⟨?_, by rw [List.length_map]; exact M.2.1, fun p hp => ?_⟩
  · unfold List.Nodup
    rw [List.pairwise_map]
    have := M.1
    unfold List.Nodup at this
    refine this.imp fun {a b} hne e => hne ?_
    have e1 := congrArg Prod.fst e
    have e2 := congrArg Prod.snd e
    unfold lefP at e1 e2
    dsimp only at e1 e2
    exact Prod.ext e2 (by omega)
  · obtain ⟨r, hr, rfl⟩ := List.mem_map.mp hp
    rw [nuW_left]
    exact M.2.2 r hr
end
/-! ### compared -/
section
variable {X : Cx} {μ : Mem} {p q : PV} {o : Option Int} {c : Int} {A N : List Int}
end
/-! ### new kept marks in the store; lists cut and made again -/
section
variable {μ : Mem} {a b c : MO} {C : Addr} {s m : Int} {h : Fin 4} {t : Bool} {ps qs : List (Int × Int)} {q p : Int × Int}
end
end L3

/-! L3: marks refused. -/
namespace L3
open PySem PySem.Spec L2 PyProof.Rows
section
variable {X : Cx} {μ : Mem} {p : PV}
theorem ma_lindexB {bs : List Bool} {k : Bool} {j : Nat} (h : asL μ p = some (bs.map PV.bl)) (hj : bs[j]? = some k) (hno : ∀ m, m < j → bs[m]? ≠ some k) : MtA X "list.index" p [.bl k] μ (.int (j : Nat)) :=
  ⟨_, mt_index, fun ad H v vs Q m r rs f => by
    obtain ⟨u, e, ru⟩ := rs.inv1
    obtain ⟨l, ws, e1, h1, r1⟩ := r.asL_inv h m
    rw [e, ru.bl_inv, e1]
    rw [r1.bls] at h1
    refine ⟨l, bs.map V.bl, .bl k, j, .bl k, rfl, rfl, h1, rfl, ?_, ?_, ?_, fun m z' hm hz => ?_, f [] _ H Stp.refl (by rwa [AD.append_nil]) (Rp.int' _)⟩
    · simp only [List.all_eq_true, List.mem_map]
      rintro _ ⟨a, _, rfl⟩
      rfl
    · rw [List.getElem?_map, hj]; rfl
    · unfold eqV; simp
    · rw [List.getElem?_map] at hz
      cases q : bs[m]? with
      | none => rw [q] at hz; cases hz
      | some a =>
        rw [q] at hz
        cases hz
        have hne : a ≠ k := fun e2 => hno m hm (by rw [q, e2])
        unfold eqV
        simp [hne]⟩
end
section
variable {X : Cx} {μ : Mem}
end
section
variable {s : Int} {h : Fin 4} {t : Bool} {ps : List (Int × Int)} {p : Int × Int}
end
section
variable {X : Cx} {ρ : Env} {μ μ1 μ2 : Mem} {a b : Expr} {es : List Expr} {pos : Pos} {k2 : Bool}
theorem DE.andT (ha : DE X a ρ μ (.bl true) μ1) (hb : DE X (.BoolOp .And (b :: es) pos) ρ μ1 (.bl k2) μ2) : DE X (.BoolOp .And (a :: b :: es) pos) ρ μ (.bl k2) μ2 := fun ad σ H Q R f =>
  wE.of (pe_and (pe_w a) (pe_w _)) (ha ad σ H _ R fun ad1 v H1 s1 m1 r1 => ⟨true, r1.bl_inv, iteT (hb _ σ H1 Q (R.mono s1 m1) (Fin1.step s1 f))⟩)
end
end L3

/-! L3: f-strings, a list by a step of 1 or -1, str of a text, an instance made of nothing, tuples of texts of the module. -/
namespace L3
open PySem PySem.Spec L2 TL PyProof.Rows
/-! ### f-strings -/
section
variable {X : Cx} {P : Program} {w : World} {K : PySem.W.Frag} {mg : Str → Option Value} {base : Heap} {N : List Str} {sc : Scope} {k j n : Nat} {x m qual f : Str} {A : ASp} {C : Addr} {ρ ρ' : Env} {μ μ1 μ2 μ' : Mem} {p q r : PV} {e o a b v1 v2 : Expr} {es : List Expr} {pos cp : Pos} {D : AEnds} {i : Int}
def DJ (X : Cx) (es : List Expr) (ρ : Env) (μ : Mem) (acc out : Str) : Prop :=
  ∃ ts, PJ X es ts ∧ ∀ (ad : AD) σ H (Q : Str → Hp → Prop), Rst ad X.K H σ ρ μ → (∀ ad2 H', Stp ad ad2 H H' → Mst (ad ++ ad2) X.K H' μ → Q out H') → tJs ts acc σ H Q
theorem DJ.nil {acc : Str} : DJ X [] ρ μ acc acc := ⟨[], .nil, fun ad σ H Q R h => h [] H Stp.refl (by rw [AD.append_nil]; exact R.m)⟩
theorem DJ.cons {acc out y : Str} (h : DE X e ρ μ (.str y) μ) (hl : acc.length + y.length ≤ sizeLine) (t : DJ X es ρ μ (acc ++ y) out) : DJ X (e :: es) ρ μ acc out := by
  obtain ⟨ts, hp, ht⟩ := t
  refine ⟨_, .cons (pe_w e) hp, fun ad σ H Q R hQ => ?_⟩
  show wE X e σ H _
  refine h ad σ H _ R fun ad1 v H1 s1 m1 r1 => ?_
  refine ⟨y, r1.str_inv, by rw [Str.length_append]; exact hl, ?_⟩
  refine ht (ad ++ ad1) σ H1 Q (R.mono s1 m1) fun ad2 H2 s2 m2 => ?_
  exact hQ (ad1 ++ ad2) H2 (s1.trans s2) (by rw [← AD.append_assoc]; exact m2)
end
/-! ### a step of 1 or -1 -/
section
variable {X : Cx} {e b : Expr} {te ts : TE} {p3 pos : Pos}
end
section
variable {X : Cx} {ρ : Env} {μ μ1 : Mem} {p : PV} {e b : Expr} {p3 pos : Pos}
end
end L3

/-! L3: the texts of lines and answers. -/
namespace L3
open PySem PySem.Spec L2 TL PyProof.Rows
section
variable {X : Cx} {μ : Mem} {p q : PV}
end
section
variable {K : PySem.W.Frag} {a : Addr} {n : Nat} {x1 x2 x3 x4 x5 : Str} {t1 t2 t3 t4 t5 : Tok}
end
/-! ### words -/
def wrd (ws : List Str) : Str := Txt.join " " ws
theorem tl_bl : tl (" " : Str) = [32] := by decide +kernel
theorem tl_wrd (ws : List Str) : tl (wrd ws) = joinL [32] (ws.map tl) := by
  unfold wrd
  rw [join_eq, tl_join, tl_bl]
theorem joinL_mem {c : Nat} : ∀ {ls : List (List Nat)}, c ∈ joinL [32] ls → c = 32 ∨ ∃ l ∈ ls, c ∈ l
  | [], h => by simp [joinL] at h
  | [p], h => .inr ⟨p, by simp, h⟩
  | p :: q :: r, h => by
    have h' : c ∈ p ++ ([32] ++ joinL [32] (q :: r)) := h
    rcases List.mem_append.mp h' with h1 | h1
    · exact .inr ⟨p, by simp, h1⟩
    · rcases List.mem_append.mp h1 with h2 | h2
      · exact .inl (List.mem_singleton.mp h2)
      · rcases joinL_mem h2 with h3 | ⟨l, hl, h3⟩
        · exact .inl h3
        · exact .inr ⟨l, List.mem_cons_of_mem _ hl, h3⟩
theorem strOk_of {z : Str} (h : ∀ c ∈ tl z, c < 0x110000) : PyData.strOk z = true := by
  unfold PyData.strOk
  rw [Array.all_eq_true']
  intro c hc
  exact decide_eq_true (h c (Array.mem_toList_iff.mpr hc))
theorem strOk_wrd {ws : List Str} (h : ∀ p ∈ ws, PyData.strOk p = true) : PyData.strOk (wrd ws) = true := strOk_of fun c hc => by
  rw [tl_wrd] at hc
  rcases joinL_mem hc with e | ⟨l, hl, hc⟩
  · omega
  · obtain ⟨p, hp, rfl⟩ := List.mem_map.mp hl
    exact strOk_mem (h p hp) hc
theorem hd_ok (h : Fin 4) : PyData.strOk (hdS h) = true := by revert h; decide +kernel
theorem tn_ok (t : Bool) : PyData.strOk (tnS t) = true := by revert t; decide +kernel
/-! ### lists of texts compared -/
theorem canL_strs : ∀ {as : List Str}, (∀ a ∈ as, PyData.strOk a = true) → PyData.canLayAll0 (as.map PyData.str) = true
  | [], _ => by simp [PyData.canLayAll0]
  | a :: as, h => by
    have h1 := canL_strs (as := as) fun b hb => h b (List.mem_cons_of_mem _ hb)
    have h2 := h a List.mem_cons_self
    rw [List.map_cons]
    simp [PyData.canLayAll0, PyData.canLay0, h1, h2]
theorem dep_strs : ∀ {as : List Str}, PyData.depthAll (as.map PyData.str) = 0
  | [] => by simp [PyData.depthAll]
  | a :: as => by rw [List.map_cons]; simp [PyData.depthAll, PyData.depth, dep_strs (as := as)]
theorem toDL_strs : ∀ {as : List Str}, toDL (as.map PV.str) = as.map PyData.str
  | [] => by unfold toDL; rfl
  | a :: as => by
    rw [List.map_cons, List.map_cons]
    unfold toDL
    rw [toDL_strs (as := as)]
    unfold toD
    rfl
section
variable {X : Cx} {μ : Mem} {p q : PV} {as : List Str}
theorem strs_facts (ok : ∀ a ∈ as, PyData.strOk a = true) : okD (.lst (as.map PV.str)) = true ∧ SeqAt.shaped (toD (.lst (as.map PV.str))) = true ∧ PyData.eqv (toD (.lst (as.map PV.str))) (toD (.lst (as.map PV.str))) = true := by
  have e : toD (.lst (as.map PV.str)) = .list (as.map PyData.str) := by unfold toD; rw [toDL_strs]
  have hl : PyData.canLay0 (.list (as.map PyData.str)) = true := by
    unfold PyData.canLay0
    exact canL_strs ok
  refine ⟨?_, ?_, ?_⟩
  · unfold okD
    exact okDL_strs fun p hp => by
      obtain ⟨a, _, rfl⟩ := List.mem_map.mp hp
      exact ⟨a, rfl⟩
  · rw [e]
    unfold SeqAt.shaped
    rw [hl]
    simp [PyData.depth, dep_strs]
  · rw [e]
    exact SeqAt.eqv_refl _ hl
theorem oa_neSs (hu : X.A.units + 64 < cLine) (h1 : asK μ p = some (as.map PV.str)) (h2 : asK μ q = some (as.map PV.str)) (ok : ∀ a ∈ as, PyData.strOk a = true) : OpA X (compareOp .NotEq) p q μ (.bl false) := by
  have e1 := vw_asK h1
  have e2 := vw_asK h2
  obtain ⟨f1, f2, f3⟩ := strs_facts ok
  have := oa_neD (X := X) (μ := μ) (p := p) (q := q) hu (by rw [e1]; exact f1) (by rw [e2]; exact f1) (by rw [e1]; exact f2) (by rw [e2]; exact f2)
  rw [e1, e2, f3] at this
  exact this
end
/-! ### numbers in words -/
/-! ### a row of numbers or texts -/
def RowOk (x : PV) : Prop := (∃ z, x = .int z ∧ B 100 z) ∨ ∃ s : Str, x = .str s ∧ s.length ≤ 32
end L3

/-! L3: the desk: its fields, its questions' words. -/
namespace L3
open PySem PySem.Spec L2 TL PyProof.Rows
def dkO (C : Addr) (s : Int) (h : Fin 4) (t : Bool) (kn : Nat) : MO := .ins C ["spiral", "kept"] [spP s h t, .obj kn]
section
variable {a b : PV} {C : Addr}
end
/-! ### what is told of a number -/
end L3

/-! L3: the desk: bounds, words, rings by their last corner. -/
namespace L3
open PySem PySem.Spec L2 TL PyProof.Rows
section
variable {s : Int} {h : Fin 4} {t : Bool} {p : Int × Int} {r : Int}
/-! ### bounds -/
end
/-! ### the number at a place, by its ring's last corner -/
end L3

/-! L3: the desk's law: a run by its ring's corners; a pair's place in a list; texts put together. -/
namespace L3
open PySem PySem.Spec L2 TL PyProof.Rows
section
variable {X : Cx} {μ : Mem} {p : PV}
end
/-! ### runs by corners -/
def ixS : Fin 4 → Nat := fun g => match g with | 0 => 0 | 1 => 2 | 2 => 1 | 3 => 3
/-! ### texts put together -/
end L3

/-! L3: the desk's law: small facts. -/
namespace L3
open PySem PySem.Spec L2 TL PyProof.Rows
section
variable {s m : Int} {h : Fin 4} {t : Bool} {p : Int × Int}
end
end L3

/-! L3: what is held and compared again. -/
namespace L3
open PySem PySem.Spec L2 TL PyProof.Rows
section
variable {X : Cx} {μ : Mem}
end
/-- held lists are as they were: none is told -/
def noneF : PV → Option PV := fun _ => none
theorem none_all (xs : List PV) : xs.filterMap noneF = [] := List.filterMap_eq_nil_iff.mpr fun _ _ => rfl
end L3

/-! L3: the desk's sums: bounds, words, parts of boxes. -/
namespace L3
open PySem PySem.Spec L2 TL PyProof.Rows
section
variable {s : Int} {h : Fin 4} {t : Bool} {b : Bx}
end
end L3

/-! L3: the desk's marks: what is told of them, what changes them. -/
namespace L3
open PySem PySem.Spec L2 TL PyProof.Rows
section
variable {s : Int} {h : Fin 4} {t : Bool} {ps : List (Int × Int)} {p q : Int × Int} {b : Bx}
/-! ### the law's marks -/
def NumOk (k z : Int) : Prop := (z ≤ 6000000000000000000 + 100 * k ∨ 99999999999999990000 - 100 * k ≤ z) ∧ z ≤ 99999999999999999999
def PsOk (k s : Int) (h : Fin 4) (t : Bool) (ps : List (Int × Int)) : Prop := ps.Nodup ∧ ps.length ≤ 60 ∧ ∀ p ∈ ps, NumOk k (nmS s h t p)
theorem PsOk.nil {k : Int} : PsOk k s h t [] := ⟨List.nodup_nil, by decide, nofun⟩
theorem NumOk.mono {k k' z : Int} (h : NumOk k z) (hk : k ≤ k') : NumOk k' z := by
  unfold NumOk at *
  omega
theorem PsOk.mono {k k' : Int} (h1 : PsOk k s h t ps) (hk : k ≤ k') : PsOk k' s h t ps := ⟨h1.1, h1.2.1, fun p hp => (h1.2.2 p hp).mono hk⟩
/-- the desk, its kept marks and their dict -/
def Dsk (CK CD : Addr) (μ : Mem) (n kn md : Nat) (s : Int) (h : Fin 4) (t : Bool) (ps : List (Int × Int)) : Prop := μ[n]? = some (dkO CD s h t kn) ∧ μ[kn]? = some (kpO CK s h t md) ∧ μ[md]? = some (kpD s h t ps)
/-- all but the desk's own stays -/
def Frm (μ μ' : Mem) (n md : Nat) : Prop := μ.length ≤ μ'.length ∧ ∀ i : Nat, i < μ.length → i ≠ n → i ≠ md → μ'[i]? = μ[i]?
theorem Dsk.app {CK CD : Addr} {μ l : Mem} {n kn md : Nat} (d : Dsk CK CD μ n kn md s h t ps) : Dsk CK CD (μ ++ l) n kn md s h t ps := ⟨get_app d.1, get_app d.2.1, get_app d.2.2⟩
theorem Dsk.set {CK CD : Addr} {μ : Mem} {n kn md k : Nat} {y : MO} (d : Dsk CK CD μ n kn md s h t ps) (h1 : k ≠ n) (h2 : k ≠ kn) (h3 : k ≠ md) : Dsk CK CD (μ.set k y) n kn md s h t ps :=
  ⟨by rw [List.getElem?_set_ne h1]; exact d.1, by rw [List.getElem?_set_ne h2]; exact d.2.1, by rw [List.getElem?_set_ne h3]; exact d.2.2⟩
theorem Dsk.frm {CK CD : Addr} {μ μ' : Mem} {n kn md n1 md1 : Nat} (d : Dsk CK CD μ n kn md s h t ps) (f : Frm μ μ' n1 md1) (h1 : n ≠ n1 ∧ n ≠ md1) (h2 : kn ≠ n1 ∧ kn ≠ md1) (h3 : md ≠ n1 ∧ md ≠ md1) : Dsk CK CD μ' n kn md s h t ps :=
  ⟨(f.2 n (List.getElem?_eq_some_iff.mp d.1).1 h1.1 h1.2).trans d.1, (f.2 kn (List.getElem?_eq_some_iff.mp d.2.1).1 h2.1 h2.2).trans d.2.1, (f.2 md (List.getElem?_eq_some_iff.mp d.2.2).1 h3.1 h3.2).trans d.2.2⟩
section
variable {μ l : Mem} {n md kn : Nat} {x : MO} {CK CD : Addr} {ps' : List (Int × Int)} {s' : Int} {h' : Fin 4} {t' : Bool}
end
end
end L3

/-! L3: deeds drawn: numbers not yet marked, rows of marks. -/
namespace L3
open PySem PySem.Spec L2 TL PyProof.Rows
section
variable {s : Int} {h : Fin 4} {t : Bool} {ps : List (Int × Int)} {p q : Int × Int} {b : Bx}
end
section
variable {X : Cx} {P : Program} {w : World} {K : PySem.W.Frag} {mg : Str → Option Value} {base : Heap} {N : List Str} {sc : Scope} {k j n : Nat} {ρ : Env} {μ μ1 μ2 : Mem} {m : Str} {A : ASp} {C : Addr} {o e : Expr} {es : List Expr} {pos apos : Pos} {ps : List PV} {fs : List Str} {vs : List PV} {pl : Sem Bool}
end
end L3

/-! L3: targets that are items of lists; texts in f-strings. -/
namespace L3
open PySem PySem.Spec L2 TL PyProof.Rows
section
variable {X : Cx} {ad : AD} {ad2 : List Addr} {σ : L2.St} {H H' : Hp} {ρ ρ' ρ1 ρ2 : Env} {μ μ1 μ2 μ' : Mem} {p q r : PV} {e a b c tg : Expr} {es : List Expr} {pos sp : Pos} {D : AEnds} {ps : List PV}
/-- a target that may write into lists -/
def DGm (X : Cx) (tg : Expr) (p : PV) (ρ : Env) (μ : Mem) (ρ' : Env) (μ' : Mem) : Prop :=
  ∀ ad σ H v (Q : L2.St → Hp → Prop), Rst ad X.K H σ ρ μ → Rp ad X.K H p v → (∀ ad2 σ' H', Stp ad ad2 H H' → Rst (ad ++ ad2) X.K H' σ' ρ' μ' → Q σ' H') → wG X tg v σ H Q
theorem DGm.of (h : DG X tg p ρ μ ρ') : DGm X tg p ρ μ ρ' μ := fun ad σ H v Q R r hQ => h ad σ H v Q R r fun σ' R' => hQ [] σ' H Stp.refl (by rwa [AD.append_nil])
theorem DGm.sub {n : Nat} {i : Int} {j : Nat} {xs : List PV} (ho : DE X a ρ μ (.obj n) μ) (hi : DE X b ρ μ (.int i) μ) (hm : μ[n]? = some (.lst xs)) (hj : ixN xs.length i = some j)
    (ha : ∀ v, assign (.Subscript a b sp) X.env v = (do
      let ov ← holding [v] (eval a X.env)
      let iv ← holding [v, ov] (eval b X.env)
      standAt sp
      holding [v, ov, iv] (setItem ov iv v)
      release [v, ov, iv] []) := by intro _; rfl) : DGm X (.Subscript a b sp) p ρ μ ρ (μ.set n (.lst (xs.set j p))) := fun ad σ H v Q R r hQ => by
  refine wG.of (pg_sub (pe_w a) (pe_w b) set_list ha) ?_
  refine ho ad σ H _ R fun ad2 o H2 s2 m2 r2 => ?_
  refine hi (ad ++ ad2) σ H2 _ (R.mono s2 m2) fun ad3 iv H3 s3 m3 r3 => ?_
  obtain ⟨l, e1, h1⟩ := (r2.mono s3).obj_inv
  obtain ⟨vs, hvs, rl⟩ := m3.mem n l _ h1 hm
  refine ⟨l, vs, i, j, e1, r3.int_inv, hvs, by rw [← rl.length]; exact hj, ?_⟩
  have s4 : Stp (ad ++ ad2 ++ ad3) [] H3 (upd H3 l (.lst (vs.set j v))) := Stp.write h1
  have m4 := m3.write (o := .lst (vs.set j v)) (m := .lst (xs.set j p)) h1 ⟨_, upd_same, (rl.set j ((r.mono s2).mono s3)).wr h1⟩
  have R3 : Rst (ad ++ ad2 ++ ad3) X.K H3 σ ρ μ := (R.mono s2 m2).mono s3 m3
  have m4' : Mst (ad ++ ad2 ++ ad3 ++ ([] : List Addr)) X.K (upd H3 l (.lst (vs.set j v))) (μ.set n (.lst (xs.set j p))) := by rw [AD.append_nil]; exact m4
  have R4 := R3.mono s4 m4'
  refine hQ (ad2 ++ (ad3 ++ [])) σ _ (s2.trans (s3.trans s4)) ?_
  have e : ad ++ (ad2 ++ (ad3 ++ [])) = ad ++ ad2 ++ ad3 ++ ([] : List Addr) := by rw [AD.append_assoc, AD.append_assoc]
  rw [e]
  exact R4
def DGms (X : Cx) (ts : List Expr) (ps : List PV) (ρ : Env) (μ : Mem) (ρ' : Env) (μ' : Mem) : Prop :=
  ∃ t, PGs X ts t ∧ ∀ ad σ H vs (Q : L2.St → Hp → Prop), Rst ad X.K H σ ρ μ → RpL ad X.K H ps vs → (∀ ad2 σ' H', Stp ad ad2 H H' → Rst (ad ++ ad2) X.K H' σ' ρ' μ' → Q σ' H') → t vs σ H Q
theorem DGms.nil : DGms X [] [] ρ μ ρ μ := ⟨gNil, pgs_nil, fun ad σ H vs Q R r h => by
  unfold RpL at r
  exact ⟨r, h [] σ H Stp.refl (by rwa [AD.append_nil])⟩⟩
theorem DGms.cons (h : DGm X e p ρ μ ρ1 μ1) (t : DGms X es ps ρ1 μ1 ρ2 μ2) (hs : assignEach (e :: es) X.env = (false, assign e X.env) :: assignEach es X.env := by rfl) : DGms X (e :: es) (p :: ps) ρ μ ρ2 μ2 := by
  obtain ⟨tt, hp, ht⟩ := t
  refine ⟨_, pgs_cons (pg_w e) hp (by first | exact hs | (rw [hs]; rfl)), fun ad σ H vs Q R r hQ => ?_⟩
  unfold RpL at r
  obtain ⟨v, vs', e1, r1, r2⟩ := r
  refine ⟨v, vs', e1, h ad σ H v _ R r1 fun ad2 σ1 H1 s1 R1 => ht (ad ++ ad2) σ1 H1 vs' Q R1 (r2.mono s1) fun ad3 σ' H' s2 R2 => ?_⟩
  refine hQ (ad2 ++ ad3) σ' H' (s1.trans s2) ?_
  rw [← AD.append_assoc]
  exact R2
theorem DGm.lst {ts : List Expr} {j : Nat} (hc : X.calm = true) (hl : asL μ p = some ps) (h : DGms X ts ps ρ μ ρ' μ') (hn : (assignEach ts X.env).length = ps.length := by rfl) (hst : (assignEach ts X.env).findIdx? (·.1) = none := by rfl) : DGm X (.Tuple ts j pos) p ρ μ ρ' μ' := by
  obtain ⟨tt, hp, ht⟩ := h
  intro ad σ H v Q R r hQ
  obtain ⟨a, vs, e1, h1, r1⟩ := r.asL_inv hl R.m
  exact wG.of (pg_unl (n := ps.length) hc hp hn hst) ⟨a, vs, e1, h1, r1.length.symm, ht ad σ H vs Q R r1 hQ⟩
theorem DGm.tup {ts : List Expr} {j : Nat} (hc : X.calm = true) (h : DGms X ts ps ρ μ ρ' μ') (hn : (assignEach ts X.env).length = ps.length := by rfl) (hst : (assignEach ts X.env).findIdx? (·.1) = none := by rfl) : DGm X (.Tuple ts j pos) (.tup ps) ρ μ ρ' μ' := by
  obtain ⟨tt, hp, ht⟩ := h
  intro ad σ H v Q R r hQ
  obtain ⟨a, vs, e1, h1, r1⟩ := r.tup_inv
  exact wG.of (pg_tup (n := ps.length) hc hp hn hst) ⟨a, vs, e1, h1, r1.length.symm, ht ad σ H vs Q R r1 hQ⟩
/-- targets = a value -/
theorem DS.asgM (h : WE X e ρ μ fun p m => ∃ ρ' μ', DGm X tg p ρ m ρ' μ' ∧ D.nx ρ' μ') (hs : swapsWithSole [tg] e pos.line X.env = pure false := by rfl) (hw : swappedStores [tg] e X.env = pure none := by rfl)
    (h1 : (assignEach [tg] X.env).map (·.2) = [assign tg X.env] := by rfl) : DS X (.Assign [tg] e pos) ρ μ D := fun ad σ H Dc R C =>
  wS.of (ps_asg (pe_w e) (pg_w tg) hs hw h1) (h ad σ H _ R fun ad2 v H' p μ' s m r q => by
    obtain ⟨ρ', μ2, hg, hn⟩ := q
    refine hg (ad ++ ad2) σ H' v _ (R.mono s m) r fun ad3 σ' H3 s3 R3 => ?_
    refine C.nx (ad2 ++ ad3) σ' H3 ρ' μ2 (s.trans s3) ?_ hn
    rw [← AD.append_assoc]
    exact R3)
end
end L3

/-! L3: two desks: rows joined, marks put again, what stands where. -/
namespace L3
open PySem PySem.Spec L2 TL PyProof.Rows
def RowB (x : PV) : Prop := (∃ z, x = .int z ∧ B 140 z) ∨ ∃ s : Str, x = .str s ∧ s.length ≤ 44
theorem RowOk.b {x : PV} (h : RowOk x) : RowB x := by
  rcases h with ⟨z, rfl, bz⟩ | ⟨s, rfl, hs⟩
  · exact .inl ⟨z, rfl, B.le bz (by decide)⟩
  · exact .inr ⟨s, rfl, by omega⟩
section
variable {s : Int} {h : Fin 4} {t : Bool} {ps : List (Int × Int)} {p q : Int × Int} {b : Bx} {μ : Mem}
/-- one of the desks: its list, itself, its marks -/
def Own (CK CD : Addr) (M : Mem) (k : Int) (l n kn md : Nat) (s : Int) (h : Fin 4) (t : Bool) (ps : List (Int × Int)) : Prop :=
  M[l]? = some (.lst [.obj n, spP s h t, .lst ((nowR s h t ps).map PV.int)]) ∧ Dsk CK CD M n kn md s h t ps ∧ (-1000000000000000000 ≤ s ∧ s ≤ 1000000000000000000) ∧ PsOk k s h t ps
theorem Own.app {CK CD : Addr} {M ex : Mem} {k : Int} {l n kn md : Nat} (o : Own CK CD M k l n kn md s h t ps) : Own CK CD (M ++ ex) k l n kn md s h t ps := ⟨get_app o.1, o.2.1.app, o.2.2⟩
theorem Own.mono {CK CD : Addr} {M : Mem} {k k' : Int} {l n kn md : Nat} (o : Own CK CD M k l n kn md s h t ps) (hk : k ≤ k') : Own CK CD M k' l n kn md s h t ps := ⟨o.1, o.2.1, o.2.2.1, o.2.2.2.mono hk⟩
/-- apart from the other desk's -/
def Apt (l n md l' n' md' : Nat) : Prop := l ≠ l' ∧ n ≠ n' ∧ md ≠ md'
theorem dk_kp {C C' : Addr} {s' : Int} {h' : Fin 4} {t' : Bool} {a a' : Nat} (e : dkO C s h t a = kpO C' s' h' t' a') : False := by
  unfold dkO kpO at e
  injection e with _ e2 _
  have : ("kept" : Str) = "marks" := by
    have := congrArg (fun l : List Str => l[1]?) e2
    exact Option.some.inj this
  exact absurd this (by decide +kernel)
/-- kinds differ -/
theorem Own.ne {CK CD : Addr} {M : Mem} {k k' : Int} {l n kn md l' n' kn' md' : Nat} {s' : Int} {h' : Fin 4} {t' : Bool} {ps' : List (Int × Int)} (o : Own CK CD M k l n kn md s h t ps) (o' : Own CK CD M k' l' n' kn' md' s' h' t' ps') :
    l ≠ n' ∧ l ≠ kn' ∧ l ≠ md' ∧ n ≠ l' ∧ n ≠ kn' ∧ n ≠ md' ∧ kn ≠ l' ∧ kn ≠ n' ∧ kn ≠ md' ∧ md ≠ l' ∧ md ≠ n' ∧ md ≠ kn' := by
  obtain ⟨o1, ⟨d1, d2, d3⟩, _⟩ := o
  obtain ⟨p1, ⟨e1, e2, e3⟩, _⟩ := o'
  refine ⟨fun e => ?_, fun e => ?_, fun e => ?_, fun e => ?_, fun e => ?_, fun e => ?_, fun e => ?_, fun e => ?_, fun e => ?_, fun e => ?_, fun e => ?_, fun e => ?_⟩
  · subst e; rw [o1] at e1; cases e1
  · subst e; rw [o1] at e2; cases e2
  · subst e; rw [o1] at e3; cases e3
  · subst e; rw [d1] at p1; cases p1
  · subst e; rw [d1] at e2; exact dk_kp (Option.some.inj e2)
  · subst e; rw [d1] at e3; cases e3
  · subst e; rw [d2] at p1; cases p1
  · subst e; rw [d2] at e1; exact dk_kp (Option.some.inj e1).symm
  · subst e; rw [d2] at e3; cases e3
  · subst e; rw [d3] at p1; cases p1
  · subst e; rw [d3] at e1; cases e1
  · subst e; rw [d3] at e2; cases e2
/-- the other desk changed -/
theorem Own.frm {CK CD : Addr} {M M' : Mem} {k k' : Int} {l n kn md l' n' kn' md' : Nat} {s' : Int} {h' : Fin 4} {t' : Bool} {ps' : List (Int × Int)} (o : Own CK CD M k l n kn md s h t ps) (o' : Own CK CD M k' l' n' kn' md' s' h' t' ps') (f : Frm M M' n' md') (a : Apt l n md l' n' md') : Own CK CD M' k l n kn md s h t ps := by
  obtain ⟨q1, q2, q3, q4, q5, q6, q7, q8, q9, q10, q11, q12⟩ := o.ne o'
  obtain ⟨a1, a2, a3⟩ := a
  obtain ⟨o1, o2, o3⟩ := o
  exact ⟨(f.2 l (List.getElem?_eq_some_iff.mp o1).1 q1 q3).trans o1, o2.frm f ⟨a2, q6⟩ ⟨q8, q9⟩ ⟨q11, a3⟩, o3⟩
end
end L3

/-! L3: sorted(set(xs)), xs a list of whole numbers. -/
namespace L2
open PySem PySem.Spec PyProof.Rows
section
variable {P : Program} {w : World} {A : Around} {E : Value → Shared → Prop} {s : Shared}
end
section
variable {X : Cx}
end
end L2
namespace L3
open PySem PySem.Spec L2 TL PyProof.Rows
section
variable {X : Cx} {P : Program} {w : World} {K : PySem.W.Frag} {mg : Str → Option Value} {base : Heap} {N : List Str} {sc : Scope} {k : Nat} {ρ : Env} {μ μ1 : Mem} {p : PV} {a : Expr} {pos p1 p2 q : Pos} {ns ms : List Int}
end
end L3

/-! L3: texts of any kind: cut at blanks, their words put in, exchanged, joined. -/
namespace L3
open PySem PySem.Spec L2 TL PyProof.Rows
theorem pre_bl {c : Nat} {r : List Nat} : pre [32] (c :: r) = decide (c = 32) := by
  by_cases h : c = 32
  · subst h
    rw [decide_eq_true rfl]
    rfl
  · rw [decide_eq_false h]
    exact pre_of_head [] r h
theorem spl_cons {acc : List Nat} {c : Nat} {r : List Nat} : spl [32] 0 acc (c :: r) = if c = 32 then acc :: spl [32] 0 [] r else spl [32] 0 (acc ++ [c]) r := by
  by_cases h : c = 32
  · rw [if_pos h, spl_hit (by rw [pre_bl, decide_eq_true h])]
    rfl
  · rw [if_neg h, spl_miss (by rw [pre_bl, decide_eq_false h])]
theorem spl_ne : ∀ (l acc : List Nat), spl [32] 0 acc l ≠ []
  | [], acc => by rw [spl_nil]; simp
  | c :: r, acc => by
    rw [spl_cons]
    split
    · simp
    · exact spl_ne r _
theorem spl_wt : ∀ (l acc : List Nat), ((spl [32] 0 acc l).map fun w => w.length + 1).sum = acc.length + l.length + 1
  | [], acc => by rw [spl_nil]; simp
  | c :: r, acc => by
    rw [spl_cons]
    split
    · rw [List.map_cons, List.sum_cons, spl_wt r []]
      simp
      omega
    · rw [spl_wt r]
      simp
      omega
theorem spl_mem {c : Nat} : ∀ {l acc w : List Nat}, w ∈ spl [32] 0 acc l → c ∈ w → c ∈ acc ∨ c ∈ l
  | [], acc, w, h, hc => by
    rw [spl_nil, List.mem_singleton] at h
    subst h
    exact .inl hc
  | d :: r, acc, w, h, hc => by
    rw [spl_cons] at h
    split at h
    · rcases List.mem_cons.mp h with e | e
      · subst e; exact .inl hc
      · rcases spl_mem e hc with z | z
        · nomatch z
        · exact .inr (List.mem_cons_of_mem _ z)
    · rcases spl_mem h hc with z | z
      · rcases List.mem_append.mp z with z | z
        · exact .inl z
        · rw [List.mem_singleton] at z; subst z; exact .inr List.mem_cons_self
      · exact .inr (List.mem_cons_of_mem _ z)
theorem joinL_cons {S p : List Nat} {l : List (List Nat)} (h : l ≠ []) : joinL S (p :: l) = p ++ (S ++ joinL S l) := by
  cases l with
  | nil => exact absurd rfl h
  | cons _ _ => rfl
/-- a text's words -/
def wds (z : Str) : List Str := Txt.split z " "
theorem kind_bl (z : Str) : ¬ Builtin.Str.strKind z < Builtin.Str.strKind " " := by
  have h : Builtin.Str.strKind " " = 1 := by decide +kernel
  rw [h]
  unfold Builtin.Str.strKind
  split
  · omega
  · split <;> omega
theorem wds_tl (z : Str) : (wds z).map tl = spl [32] 0 [] (tl z) := by
  have h := split_spl z " " (by rw [tl_bl]; simp) (kind_bl z)
  rw [tl_bl] at h
  exact h
theorem wds_ne (z : Str) : wds z ≠ [] := fun h => spl_ne (tl z) [] (by rw [← wds_tl, h]; rfl)
def wtS (ws : List Str) : Nat := (ws.map fun w => w.length + 1).sum
theorem wt_cons {w : Str} {ws : List Str} : wtS (w :: ws) = w.length + 1 + wtS ws := rfl
theorem wt_app {ws us : List Str} : wtS (ws ++ us) = wtS ws + wtS us := by
  unfold wtS
  rw [List.map_append, List.sum_append]
theorem wt_tl (ws : List Str) : wtS ws = ((ws.map tl).map fun w => w.length + 1).sum := by
  unfold wtS
  rw [List.map_map]
  congr 1
theorem wt_wds (z : Str) : wtS (wds z) = z.length + 1 := by
  rw [wt_tl, wds_tl, spl_wt, len_tl]
  show 0 + _ + 1 = _
  omega
theorem wds_mem {z w : Str} {c : Nat} (h : w ∈ wds z) (hc : c ∈ tl w) : c ∈ tl z := by
  have h1 : tl w ∈ (wds z).map tl := List.mem_map_of_mem h
  rw [wds_tl] at h1
  rcases spl_mem h1 hc with z | z
  · nomatch z
  · exact z
theorem wds_ok {z : Str} (h : PyData.strOk z = true) : ∀ w ∈ wds z, PyData.strOk w = true := fun w hw => strOk_of fun c hc => strOk_mem h (wds_mem hw hc)
theorem wt_len (ws : List Str) : ws.length ≤ wtS ws := by
  induction ws with
  | nil => exact Nat.le_refl _
  | cons w ws ih => rw [wt_cons, List.length_cons]; omega
theorem wt_mem {ws : List Str} {w : Str} (h : w ∈ ws) : w.length + 1 ≤ wtS ws := by
  induction ws with
  | nil => nomatch h
  | cons u ws ih =>
    rw [wt_cons]
    rcases List.mem_cons.mp h with e | e
    · subst e; omega
    · have := ih e; omega
theorem wrd_cons {w : Str} {ws : List Str} (h : ws ≠ []) : (wrd (w :: ws)).length = w.length + 1 + (wrd ws).length := by
  rw [len_tl, tl_wrd, List.map_cons, joinL_cons (by simpa using h), List.length_append, List.length_append, ← tl_wrd, ← len_tl, ← len_tl]
  simp
  omega
theorem wrd_wt (ws : List Str) : (wrd ws).length ≤ wtS ws := by
  induction ws with
  | nil => exact Nat.le_of_eq rfl
  | cons w ws ih =>
    by_cases h : ws = []
    · subst h
      rw [wt_cons]
      have : (wrd [w]).length = w.length := by rw [len_tl, tl_wrd, len_tl]; rfl
      omega
    · rw [wrd_cons h, wt_cons]
      omega
theorem wt_set : ∀ {ws : List Str} {i : Nat} {x : Str} (w : Str), ws[i]? = some x → wtS (ws.set i w) + x.length = wtS ws + w.length
  | [], i, x, w, h => by simp at h
  | u :: ws, 0, x, w, h => by
    have e : u = x := by simpa using h
    subst e
    rw [List.set_cons_zero, wt_cons, wt_cons]
    omega
  | u :: ws, i + 1, x, w, h => by
    have := wt_set (ws := ws) (i := i) w (by simpa using h)
    rw [List.set_cons_succ, wt_cons, wt_cons]
    omega
theorem wt_ins (ws : List Str) (i : Nat) (w : Str) : wtS (ws.take i ++ [w] ++ ws.drop i) = wtS ws + w.length + 1 := by
  have h : wtS (ws.take i) + wtS (ws.drop i) = wtS ws := by rw [← wt_app, List.take_append_drop]
  have e : wtS [w] = w.length + 1 := rfl
  rw [wt_app, wt_app, e]
  omega
theorem wt_swap {ws : List Str} {i j : Nat} {x y : Str} (hx : ws[i]? = some x) (hy : ws[j]? = some y) : wtS ((ws.set i y).set j x) = wtS ws := by
  have h1 := wt_set y hx
  have hj : (ws.set i y)[j]? = some y := by
    rw [List.getElem?_set]
    have hi : i < ws.length := (List.getElem?_eq_some_iff.mp hx).1
    by_cases e : i = j
    · rw [if_pos e, if_pos hi]
    · rw [if_neg e, hy]
  have h2 := wt_set x hj
  omega
theorem wt_line {ws : List Str} (h : wtS ws ≤ 16777216) : (ws.map (·.length)).sum + ws.length * (" " : Str).length ≤ 16777216 := by
  have e : (" " : Str).length = 1 := by decide +kernel
  have : ∀ ws : List Str, (ws.map (·.length)).sum + ws.length = wtS ws := fun ws => by
    induction ws with
    | nil => rfl
    | cons w ws ih =>
      rw [wt_cons, List.map_cons, List.sum_cons, List.length_cons]
      omega
  rw [e, Nat.mul_one, this]
  exact h
theorem set_oks {ws : List Str} {P : Str → Prop} {i : Nat} {w : Str} (h : ∀ u ∈ ws, P u) (hw : P w) : ∀ u ∈ ws.set i w, P u := fun u hu => by
  rcases List.mem_or_eq_of_mem_set hu with z | z
  · exact h u z
  · rw [z]; exact hw
theorem ins_oks {ws : List Str} {P : Str → Prop} {i : Nat} {w : Str} (h : ∀ u ∈ ws, P u) (hw : P w) : ∀ u ∈ ws.take i ++ [w] ++ ws.drop i, P u := fun u hu => by
  rcases List.mem_append.mp hu with z | z
  · rcases List.mem_append.mp z with z | z
    · exact h u (List.mem_of_mem_take z)
    · rw [List.mem_singleton.mp z]; exact hw
  · exact h u (List.mem_of_mem_drop z)
/-! ### texts within bounds -/
/-- a text of at most n signs -/
def TxOk (n : Nat) (z : Str) : Prop := z.length ≤ n ∧ PyData.strOk z = true
theorem TxOk.mono {n m : Nat} {z : Str} (h : TxOk n z) (l : n ≤ m) : TxOk m z := ⟨Nat.le_trans h.1 l, h.2⟩
theorem tl_cutS_mem {z : Str} {lo hi : Option Int} {c : Nat} (h : c ∈ tl (cutS z lo hi)) : c ∈ tl z := by
  unfold cutS tl at h
  exact List.mem_of_mem_drop (List.mem_of_mem_take h)
theorem TxOk.cut {n : Nat} {z : Str} {lo hi : Option Int} (h : TxOk n z) : TxOk n (cutS z lo hi) := ⟨Nat.le_trans (cutS_length _ _ _) h.1, strOk_of fun c hc => strOk_mem h.2 (tl_cutS_mem hc)⟩
theorem len_app (x y : Str) : (x ++ y).length = x.length + y.length := by
  rw [len_tl, tl_append, List.length_append, ← len_tl, ← len_tl]
theorem TxOk.app {n m : Nat} {x y : Str} (hx : TxOk n x) (hy : TxOk m y) : TxOk (n + m) (x ++ y) := by
  refine ⟨by rw [len_app]; exact Nat.add_le_add hx.1 hy.1, strOk_of fun c hc => ?_⟩
  rw [tl_append] at hc
  rcases List.mem_append.mp hc with z | z
  · exact strOk_mem hx.2 z
  · exact strOk_mem hy.2 z
theorem TxOk.one {c : Nat} (h : c < 0x110000) : TxOk 1 ⟨#[c]⟩ := ⟨Nat.le_refl 1, strOk_one h⟩
theorem TxOk.lit {n : Nat} {z : Str} (h : (Nat.ble z.length n && PyData.strOk z) = true) : TxOk n z := by
  rw [Bool.and_eq_true] at h
  exact ⟨Nat.le_of_ble_eq_true h.1, h.2⟩
theorem TxOk.wrd {n : Nat} {ws : List Str} (h : wtS ws ≤ n) (ok : ∀ w ∈ ws, PyData.strOk w = true) : TxOk n (wrd ws) := ⟨Nat.le_trans (wrd_wt ws) h, strOk_wrd ok⟩
theorem TxOk.word {n : Nat} {z w : Str} (h : TxOk n z) (hw : w ∈ wds z) : TxOk n w := ⟨by have h1 := wt_mem hw; rw [wt_wds] at h1; have := h.1; omega, wds_ok h.2 w hw⟩
theorem tl_foldl (l : List Str) : ∀ a : Array Nat, ((l.map (·.cps)).foldl (· ++ ·) a).toList = a.toList ++ (l.map tl).flatten := by
  induction l with
  | nil => intro a; simp
  | cons z l ih =>
    intro a
    rw [List.map_cons, List.foldl_cons, ih, Array.toList_append, List.map_cons, List.flatten_cons, List.append_assoc]
theorem tl_mul (z : Str) (n : Int) : tl (Txt.mul z n) = (List.replicate n.toNat (tl z)).flatten := by
  unfold Txt.mul
  by_cases h1 : n < 1
  · rw [if_pos h1, show n.toNat = 0 by omega]
    rfl
  · rw [if_neg h1]
    by_cases h2 : (n == 1 || z.length == 0) = true
    · rw [if_pos h2]
      rw [Bool.or_eq_true] at h2
      rcases h2 with h2 | h2
      · have e : n = 1 := by simpa using h2
        subst e
        simp
      · have e : z.length = 0 := by simpa using h2
        have e2 : tl z = [] := by
          rw [len_tl] at e
          exact List.length_eq_zero_iff.mp e
        rw [e2]
        simp
    · rw [if_neg h2]
      have := tl_foldl (List.replicate n.toNat z) #[]
      rw [List.map_replicate, List.map_replicate] at this
      exact this
theorem mul_len (z : Str) (n : Int) : (Txt.mul z n).length = n.toNat * z.length := by
  rw [len_tl, tl_mul, List.length_flatten, List.map_replicate, List.sum_replicate_nat, len_tl]
theorem TxOk.mul {n : Nat} {z : Str} {k : Nat} (h : TxOk n z) : TxOk (k * n) (Txt.mul z ((k : Nat) : Int)) := by
  refine ⟨by rw [mul_len]; exact Nat.mul_le_mul_left _ h.1, strOk_of fun c hc => ?_⟩
  rw [tl_mul] at hc
  obtain ⟨l, hl, hc⟩ := List.mem_flatten.mp hc
  rw [(List.mem_replicate.mp hl).2] at hc
  exact strOk_mem h.2 hc
end L3

/-! L3: rules of texts: split as a new list, insert, text * n, replace with a count of one. -/
namespace PySem
open Builtin Builtin.Str
theorem gives_rep1 (x y z : Str) (t u v k : Tok)
    (h0 : (u == 0 || v == 0) = false) (huv : (u == v) = false) (hyz : (y == z) = false) (hl : tooLong (x.length + (occurrences x y 0 x.length 1).length * z.length) = false) :
    Gives («str.replace» ⟨[.str x t, .str y u, .str z v, .int 1 k], []⟩) (if ((occurrences x y 0 x.length 1).isEmpty || (y.length == 0 && z.length == 0)) = true then .val (.str x t) else .str (glued z (partsBetween x (occurrences x y 0 x.length 1) y.length))) := by
  show Gives (if ((occurrences x y 0 x.length 1).isEmpty || (y.length == 0 && z.length == 0)) = true then (do rule "str.replace.nothing"; ret (.str x t)) else
          (do let same ← isSame (.str y u) (.str z v)
              if same = true then (do rule "str.replace.old-is-new"; ret (.str x t)) else
              if tooLong (x.length + (occurrences x y 0 x.length 1).length * z.length) = true then unsupported "str.replace:memory" else
              retStr (glued z (partsBetween x (occurrences x y 0 x.length 1) y.length)))) _
  cases hc : ((occurrences x y 0 x.length 1).isEmpty || (y.length == 0 && z.length == 0))
  · rw [isSame_str_other y z u v h0 huv hyz, hl]
    exact .of_eq rfl
  · exact .rule (.of_eq rfl)
end PySem
namespace L3
open PySem PySem.Spec L2 TL PyProof.Rows
theorem Call_method3 {prog : Program} {w : World} {A : Around} {E : Value → Shared → Prop} {s : Shared} {env : PySem.Env} {o e₁ e₂ e₃ : Expr} {name : Str} {apos pos : Pos} {Q : Value → Shared → Prop}
    (hbase : attributeBase o name env (eval o env) = eval o env) (hs : starEach [e₁, e₂, e₃] env = [(false, eval e₁ env), (false, eval e₂ env), (false, eval e₃ env)]) (hline : (apos.endLine == pos.line) = true)
    (h : wpAny (model prog w) A (eval o env) (fun ov s₁ => MethodOnS prog w A E name ov pos [(false, eval e₁ env), (false, eval e₂ env), (false, eval e₃ env)] Q s₁) E s) :
    wpAny (model prog w) A (eval (.Call (.Attribute o name apos) [e₁, e₂, e₃] [] pos) env) Q E s := by
  refine wpAny_Call_method_lateS hbase (by rw [hs]; rfl) hline ?_
  rw [hs]; exact h
/-- the first y of x as z -/
def rep1 (x y z : Str) : Str :=
  if ((Builtin.Str.occurrences x y 0 x.length 1).isEmpty || (y.length == 0 && z.length == 0)) = true then x else Builtin.Str.glued z (Builtin.Str.partsBetween x (Builtin.Str.occurrences x y 0 x.length 1) y.length)
theorem sub_mem {x : Str} {i j c : Nat} (h : c ∈ tl (Builtin.Str.strSub x i j)) : c ∈ tl x := by
  have h' : c ∈ (x.cps.extract i j).toList := h
  rw [Array.toList_extract] at h'
  exact List.mem_of_mem_drop (List.mem_of_mem_take h')
theorem sub_len {x : Str} {i j : Nat} : (Builtin.Str.strSub x i j).length ≤ x.length := by
  show (x.cps.extract i j).size ≤ x.cps.size
  rw [Array.size_extract]
  omega
theorem rep1_ok {n m : Nat} {x y z : Str} (hx : TxOk n x) (hz : TxOk m z) : TxOk (n + n + m) (rep1 x y z) := by
  unfold rep1
  split
  · exact hx.mono (by omega)
  · have h1 := StrLaws.occ_length_le x y 0 x.length 1
    generalize Builtin.Str.occurrences x y 0 x.length 1 = cs at h1
    have hsub : ∀ i j, TxOk n (Builtin.Str.strSub x i j) := fun i j => ⟨Nat.le_trans sub_len hx.1, strOk_of fun c hc => strOk_mem hx.2 (sub_mem hc)⟩
    rcases cs with _ | ⟨a, _ | ⟨b, r⟩⟩
    · exact (hsub 0 x.length).mono (by omega)
    · have e : Builtin.Str.glued z (Builtin.Str.partsBetween x [a] y.length) = Builtin.Str.strSub x 0 a ++ z ++ Builtin.Str.strSub x (a + y.length) x.length := rfl
      rw [e]
      exact (((hsub 0 a).app hz).app (hsub _ _)).mono (by omega)
    · simp at h1
section
variable {X : Cx} {P : Program} {w : World} {K : PySem.W.Frag} {mg : Str → Option Value} {base : Heap} {N : List Str} {sc : Scope} {k j : Nat} {x : Str} {A : ASp} {ρ ρ' : Env} {μ μ1 μ2 μ3 μ' : Mem} {p q r : PV} {e e2 a b c o tg : Expr} {es : List Expr} {pos cp c0 c1 c2 : Pos} {D : AEnds} {kb : Bool} {st : Stmt} {sts : List Stmt}
/-- s.split(e) as a new list -/
theorem DE.splitO {z y : Str} {apos : Pos} (ho : DE X o ρ μ (.str z) μ1) (ha : DE X e ρ μ1 (.str y) μ2) (hy : (y.length == 0) = false) (hz : z.length + 2 ≤ sizeLine)
    (hbase : attributeBase o "split" X.env (eval o X.env) = eval o X.env := by rfl)
    (hfew : ((backTo cp (starEach [e] X.env)).all (fun x => !x.1) && (backToKw cp (keywordEach [] X.env)).all (fun x => x.1.isSome)
      && decide (([e] : List Expr).length + ([] : List Keyword).length + (if ([] : List Keyword).isEmpty then 0 else 1) < 30)) = true := by rfl)
    (hline : (apos.endLine == cp.line) = true := by rfl) (hs : starEach [e] X.env = (false, eval e X.env) :: starEach [] X.env := by rfl) (hplain : (backTo cp (starEach [] X.env)).any (·.1) = false := by rfl) :
    DE X (.Call (.Attribute o "split" apos) [e] [] cp) ρ μ (.obj μ2.length) (μ2 ++ [.lst ((Txt.split z y).map PV.str)]) := fun ad σ H Q R f => by
  refine wE.of (pe_bm PySem.F.plainAttrs_str PySem.F.slot_str_split PySem.F.type_str_split mt_split (pe_w o) (pa_w [e]) hbase hfew hline hs hplain) ?_
  refine ho ad σ H _ R fun ad1 v H1 s1 m1 r1 => ⟨by rw [r1.str_inv]; rfl, ?_⟩
  refine DA.cons ha DA.nil hs (ad ++ ad1) σ H1 _ (R.mono s1 m1) fun ad2 vs H2 s2 m2 r2 => ?_
  obtain ⟨u, e2, ru⟩ := r2.inv1
  rw [e2, r1.str_inv, ru.str_inv]
  refine ⟨z, y, rfl, rfl, hy, hz, fun l hl => ?_⟩
  have s3 : Stp (ad ++ ad1 ++ ad2) [l] H2 (upd H2 l (.lst ((Txt.split z y).map V.str))) := Stp.fresh hl
  refine f (ad1 ++ (ad2 ++ [l])) _ _ (s1.trans (s2.trans s3)) ?_ ?_
  · rw [← AD.append_assoc, ← AD.append_assoc]
    exact m2.push hl ⟨_, upd_same, RpL.of_strs⟩
  · rw [← AD.append_assoc, ← AD.append_assoc]
    unfold Rp
    exact ⟨l, rfl, AD.at_snoc m2.len⟩
/-- o.insert(i, e) -/
theorem DE.insert {n : Nat} {i : Int} {xs ys : List PV} {apos : Pos} (ho : DE X o ρ μ (.obj n) μ1) (ha : DA X [e, e2] ρ μ1 [.int i, p] μ2) (h1 : asL μ1 (.obj n) = some ys) (h2 : μ2[n]? = some (.lst xs)) (hl : xs.length < sizeLine) (i0 : 0 ≤ i) (i1 : i < 2 ^ 63)
    (hbase : attributeBase o "insert" X.env (eval o X.env) = eval o X.env := by rfl)
    (hfew : ((backTo cp (starEach [e, e2] X.env)).all (fun x => !x.1) && (backToKw cp (keywordEach [] X.env)).all (fun x => x.1.isSome)
      && decide (([e, e2] : List Expr).length + ([] : List Keyword).length + (if ([] : List Keyword).isEmpty then 0 else 1) < 30)) = true := by rfl)
    (hline : (apos.endLine == cp.line) = true := by rfl) (hs : starEach [e, e2] X.env = (false, eval e X.env) :: starEach [e2] X.env := by rfl) (hplain : (backTo cp (starEach [e2] X.env)).any (·.1) = false := by rfl) :
    DE X (.Call (.Attribute o "insert" apos) [e, e2] [] cp) ρ μ .non (μ2.set n (.lst (xs.take i.toNat ++ [p] ++ xs.drop i.toNat))) := fun ad σ H Q R f => by
  refine wE.of (pe_bm PySem.F.plainAttrs_list PySem.F.slot_list_insert PySem.F.type_list_insert mt_insert (pe_w o) (pa_w [e, e2]) hbase hfew hline hs hplain) ?_
  refine ho ad σ H _ R fun ad1 v H1 s1 m1 r1 => ⟨r1.tyL m1 h1, ?_⟩
  refine ha (ad ++ ad1) σ H1 _ (R.mono s1 m1) fun ad2 vs H2 s2 m2 r2 => ?_
  obtain ⟨u1, u2, e3, r3, r4⟩ := r2.inv2
  obtain ⟨l, e4, hl3⟩ := (r1.mono s2).obj_inv
  obtain ⟨ws, hw, rw'⟩ := m2.mem n l _ hl3 h2
  refine ⟨l, ws, i, u2, e4, by rw [e3, r3.int_inv], hw, by rw [← rw'.length]; exact hl, i0, i1, ?_⟩
  have s3 : Stp (ad ++ ad1 ++ ad2) [] H2 (upd H2 l (.lst (ws.take i.toNat ++ [u2] ++ ws.drop i.toNat))) := Stp.write hl3
  have m3 := m2.write (o := .lst (ws.take i.toNat ++ [u2] ++ ws.drop i.toNat)) (m := .lst (xs.take i.toNat ++ [p] ++ xs.drop i.toNat)) hl3 ⟨_, upd_same, (((rw'.take i.toNat).append (RpL.cons r4 RpL.nil)).append (rw'.drop i.toNat)).wr hl3⟩
  exact (Fin1.step s2 (Fin1.step s1 f)) [] _ _ s3 (by rw [AD.append_nil]; exact m3) Rp.non'
theorem op_mulS : OpR X (binaryOp .Mult) (fun x y H Q => ∃ z n, x = .str z ∧ y = .int n ∧ 0 ≤ n ∧ n < 9223372036854775808 ∧ z.length * n.toNat ≤ 16777216 ∧ Q (.str (Txt.mul z n)) H) := by
  intro pins s σ H x y v u Q I rx ry h
  obtain ⟨z, n, rfl, rfl, n0, n1, hl, q⟩ := h
  obtain ⟨t, rfl⟩ := rx
  obtain ⟨t2, rfl⟩ := ry
  refine PySem.SB.mul ⟨?_, fun h1 _ => ?_, fun h1 _ => ?_⟩ fun t' k => ⟨.str _, H, I.tok k, ⟨t', rfl⟩, q⟩
  · rw [decide_eq_false (by omega), decide_eq_false (by omega)]
    rfl
  · have hz : (z.length : Int) * n ≤ 9223372036854775807 := by
      have e : ((z.length * n.toNat : Nat) : Int) = (z.length : Int) * n := by
        rw [Int.natCast_mul, Int.toNat_of_nonneg n0]
      omega
    have := (Int.le_ediv_iff_mul_le (a := (z.length : Int)) (b := 9223372036854775807) (c := n) (by omega)).mpr hz
    have e63 : (2 ^ 63 - 1 : Int) = 9223372036854775807 := by decide
    rw [e63]
    omega
  · unfold Builtin.Str.tooLong sizeLine
    exact decide_eq_false (by
      have e : (2 : Nat) ^ 24 = 16777216 := by decide
      omega)
theorem oa_mulS {z : Str} {n : Int} (n0 : 0 ≤ n) (n1 : n < 9223372036854775808) (hl : z.length * n.toNat ≤ 16777216) : OpA X (binaryOp .Mult) (.str z) (.int n) μ (.str (Txt.mul z n)) :=
  ⟨_, op_mulS, fun ad H vx vy Q m rx ry f => ⟨z, n, rx.str_inv, ry.int_inv, n0, n1, hl, f [] _ H Stp.refl (by rwa [AD.append_nil]) (Rp.str' _)⟩⟩
/-! ### a token is out -/
structure SwET (X : Cx) (e : Expr) (σ : L2.St) (H : Hp) (Q : VK) : Prop where
  go : ∀ pins s, 1 ≤ s.toks → Inv X pins σ H s → wpAny (model X.prog X.w) X.A (eval e X.env) (EP X pins σ Q) X.xe s
def wET (X : Cx) (e : Expr) : TE := fun σ H Q => SwET X e σ H Q
structure SwAT (X : Cx) (es : List Expr) (σ : L2.St) (H : Hp) (Q : List V → Hp → Prop) : Prop where
  go : ∀ pos pins s, 1 ≤ s.toks → Inv X pins σ H s → wpAny (model X.prog X.w) X.A (spliced (backTo pos (starEach es X.env))) (AP X pins σ Q) X.xe s
def wAT (X : Cx) (es : List Expr) : TA := fun σ H Q => SwAT X es σ H Q
theorem pet_w (e : Expr) : PET X e (wET X e) := fun pins s _ _ _ h0 I h => h.go pins s h0 I
theorem pat_w (es : List Expr) : PAT X es (wAT X es) := fun pos pins s _ _ _ h0 I h => h.go pos pins s h0 I
theorem wET.of {t : TE} {σ : L2.St} {H : Hp} {Q : VK} (h : PET X e t) (q : t σ H Q) : wET X e σ H Q := ⟨fun pins s h0 I => h pins s σ H Q h0 I q⟩
theorem wAT.of {t : TA} {σ : L2.St} {H : Hp} {Q : List V → Hp → Prop} (h : PAT X es t) (q : t σ H Q) : wAT X es σ H Q := ⟨fun pos pins s h0 I => h pos pins s σ H Q h0 I q⟩
def DET (X : Cx) (e : Expr) (ρ : Env) (μ : Mem) (p : PV) (μ' : Mem) : Prop :=
  ∀ ad σ H Q, Rst ad X.K H σ ρ μ → Fin1 X ad H μ' p Q → wET X e σ H Q
def DAT (X : Cx) (es : List Expr) (ρ : Env) (μ : Mem) (ps : List PV) (μ' : Mem) : Prop :=
  ∀ ad σ H Q, Rst ad X.K H σ ρ μ → FinL X ad H μ' ps Q → wAT X es σ H Q
theorem DET.of (h : DE X e ρ μ p μ1) : DET X e ρ μ p μ1 := fun ad σ H Q R f => ⟨fun pins s _ I => (h ad σ H Q R f).go pins s I⟩
theorem DAT.nil : DAT X [] ρ μ [] μ := fun ad σ H Q R f => wAT.of pat_nil (f [] _ H Stp.refl R.nil RpL.nil)
theorem DAT.cons {ps : List PV} (h : DET X e ρ μ p μ1) (t : DAT X es ρ μ1 ps μ2) (hs : starEach (e :: es) X.env = (false, eval e X.env) :: starEach es X.env := by rfl) : DAT X (e :: es) ρ μ (p :: ps) μ2 := fun ad σ H Q R f =>
  wAT.of (pat_cons (pet_w e) (pat_w es) hs) (h ad σ H _ R fun ad1 v H1 s1 m1 r1 =>
    t (ad ++ ad1) σ H1 _ (R.mono s1 m1) fun ad2 vs H2 s2 m2 r2 => f (ad1 ++ ad2) _ H2 (s1.trans s2) (by rwa [← AD.append_assoc]) (by rw [← AD.append_assoc]; exact RpL.cons (r1.mono s2) r2))
/-- the first item gives a token out -/
def tConsA (te : TE) (ta : TA) (y : Str) : TA := fun σ H Q => te σ H fun v H1 => ∃ z, v = .str z ∧ y.length + z.length ≤ sizeLine ∧ ta σ H1 fun vs H2 => Q (.str (y ++ z) :: vs) H2
theorem pa_consT {y : Str} {te : TE} {ta : TA} (hb : PE X b te) (ht : PAT X es ta)
    (hs : starEach (.BinOp (.Constant (.str y) j c0) .Add b pos :: es) X.env = (false, eval (.BinOp (.Constant (.str y) j c0) .Add b pos) X.env) :: starEach es X.env := by rfl) :
    PA X (.BinOp (.Constant (.str y) j c0) .Add b pos :: es) (tConsA te ta y) := by
  refine ⟨fun pos pins s σ H Q I h => ?_⟩
  rw [hs]
  show wpAny _ _ (spliced ((false, eval (.BinOp (.Constant (.str y) j c0) .Add b _) X.env) :: backTo pos (starEach es X.env))) _ _ s
  refine Calls.spliced_cons (wpAny_BinOp (Calls.Constant_str ?_))
  refine wpAny_mono (PySem.wpAny_toks (hb.run pins _ σ H _ (I.tok (s.toks + 1)) h)) (fun v s1 q => ?_) fun _ _ z => z.2
  obtain ⟨hk, x, H1, I1, r1, z, e1, hz, q⟩ := q
  have hk' : s.toks + 1 ≤ s1.toks := hk
  subst e1
  obtain ⟨tz, e2⟩ := r1
  subst e2
  refine wpAny_mono (PySem.wpAny_toks (op_add_str (X := X) pins s1 σ H1 (.str y) (.str z) _ _ (fun v H' => v = .str (y ++ z) ∧ H' = H1) I1 ⟨s.toks, rfl⟩ ⟨tz, rfl⟩ ⟨y, z, rfl, rfl, hz, rfl, rfl⟩)) (fun u s2 q2 => ?_) fun _ _ z => z.2
  obtain ⟨hk2, x2, H2, I2, r2, e3, e4⟩ := q2
  subst e3 e4
  exact thn (ht pos pins s2 σ H2 _ (by omega) I2 q) fun us s3 ⟨xs, H3, I3, r3, q3⟩ => ⟨_ :: xs, H3, I3, .cons r2 r3, q3⟩
theorem DA.consT {ps : List PV} {y z : Str} (hb : DE X b ρ μ (.str z) μ1) (hz : y.length + z.length ≤ sizeLine) (t : DAT X es ρ μ1 ps μ2)
    (hs : starEach (.BinOp (.Constant (.str y) j c0) .Add b pos :: es) X.env = (false, eval (.BinOp (.Constant (.str y) j c0) .Add b pos) X.env) :: starEach es X.env := by rfl) :
    DA X (.BinOp (.Constant (.str y) j c0) .Add b pos :: es) ρ μ (.str (y ++ z) :: ps) μ2 := fun ad σ H Q R f =>
  wA.of (pa_consT (pe_w b) (pat_w es) hs) (hb ad σ H _ R fun ad1 v H1 s1 m1 r1 => ⟨z, r1.str_inv, hz,
    t (ad ++ ad1) σ H1 _ (R.mono s1 m1) fun ad2 vs H2 s2 m2 r2 => f (ad1 ++ ad2) _ H2 (s1.trans s2) (by rwa [← AD.append_assoc]) (by rw [← AD.append_assoc]; exact RpL.cons (Rp.str' _) r2)⟩)
def tRep1 (to : TE) (y z : Str) : TE := fun σ H Q => to σ H fun v H1 => ∃ x, v = .str x ∧ x.length ≤ 900 ∧ Q (.str (rep1 x y z)) H1
theorem pet_rep1 {to : TE} {y z : Str} {j0 j1 j2 : Nat} {apos : Pos} (ho : PE X o to) (hyz : (y == z) = false) (hlz : z.length ≤ 900)
    (hst : starEach [.Constant (.str y) j0 c0, .Constant (.str z) j1 c1, .Constant (.int 1) j2 c2] X.env = [(false, eval (.Constant (.str y) j0 c0) X.env), (false, eval (.Constant (.str z) j1 c1) X.env), (false, eval (.Constant (.int 1) j2 c2) X.env)] := by rfl)
    (hbase : attributeBase o "replace" X.env (eval o X.env) = eval o X.env := by rfl) (hline : (apos.endLine == pos.line) = true := by rfl) :
    PET X (.Call (.Attribute o "replace" apos) [.Constant (.str y) j0 c0, .Constant (.str z) j1 c1, .Constant (.int 1) j2 c2] [] pos) (tRep1 to y z) := by
  intro pins s σ H Q h0 I h
  refine Call_method3 hbase hst hline (wpAny_mono (PySem.wpAny_toks (ho.run pins s σ H _ I h)) (fun v s1 q => ?_) fun _ _ z => z.2)
  obtain ⟨hk, v', H1, I1, r1, x, e1, hb, q⟩ := q
  subst e1
  obtain ⟨tx, e2⟩ := r1
  subst e2
  refine ⟨"str", _, PySem.F.plainAttrs_str, PySem.F.slot_str_replace, PySem.F.type_str_replace, typeIs_str _ _ _, (fun _ e => nomatch e), Calls.callWith_builtin rfl (Calls.evalArgs_plain (Calls.spliced_cons ?_))⟩
  refine Calls.Constant_str (Calls.spliced_cons (Calls.Constant_str (Calls.spliced_cons (wpAny_Constant_int (Calls.spliced_nil ?_)))))
  have h1 := StrLaws.occ_length_le x y 0 x.length 1
  have hm : (Builtin.Str.occurrences x y 0 x.length 1).length * z.length ≤ 1 * z.length := Nat.mul_le_mul_right _ h1
  have hl : Builtin.Str.tooLong (x.length + (Builtin.Str.occurrences x y 0 x.length 1).length * z.length) = false := by
    unfold Builtin.Str.tooLong sizeLine
    exact decide_eq_false (by
      have e : (2 : Nat) ^ 24 = 16777216 := by decide
      omega)
  have n1 : s1.toks ≠ 0 := by omega
  refine call_gives PySem.F.slot_str_replace (typeIs_str _ _ _) PySem.F.entry_str_replace (PySem.F.args_str_replace_4 _ _ _ _)
    (gives_rep1 x y z _ _ _ _ (by simp [n1]) (by simp) hyz hl) ?_
  have q' := q
  unfold rep1 at q'
  split
  · rename_i hc
    rw [if_pos hc] at q'
    exact ⟨.str x, H1, I1.tok _, ⟨tx, rfl⟩, q'⟩
  · rename_i hc
    rw [if_neg hc] at q'
    refine ⟨?_, ⟨.str (Builtin.Str.glued z (Builtin.Str.partsBetween x (Builtin.Str.occurrences x y 0 x.length 1) y.length)), H1, I1.tok _, ⟨_, rfl⟩, q'⟩⟩
    have hh : (rep1 x y z).length ≤ 900 + 900 + 900 := by
      unfold rep1
      rw [if_neg hc]
      rw [size_glued, length_partsBetween, Nat.add_sub_cancel]
      have : ((Builtin.Str.partsBetween x (Builtin.Str.occurrences x y 0 x.length 1) y.length).map (·.length)).sum ≤ 900 + 900 := by
        generalize Builtin.Str.occurrences x y 0 x.length 1 = cs at h1
        rcases cs with _ | ⟨a, _ | ⟨b, r⟩⟩
        · show (Builtin.Str.strSub x 0 x.length).length + 0 ≤ _
          have := sub_len (x := x) (i := 0) (j := x.length)
          omega
        · show (Builtin.Str.strSub x 0 a).length + ((Builtin.Str.strSub x (a + y.length) x.length).length + 0) ≤ _
          have h1 := sub_len (x := x) (i := 0) (j := a)
          have h2 := sub_len (x := x) (i := a + y.length) (j := x.length)
          omega
        · simp at h1
      omega
    unfold rep1 at hh
    rw [if_neg hc] at hh
    rw [sizeLine_eq]
    omega
theorem DET.rep1 {x y z : Str} {j0 j1 j2 : Nat} {apos : Pos} (ho : DE X o ρ μ (.str x) μ1) (hx : x.length ≤ 900) (hyz : (y == z) = false := by decide) (hlz : z.length ≤ 900 := by decide +kernel)
    (hst : starEach [.Constant (.str y) j0 c0, .Constant (.str z) j1 c1, .Constant (.int 1) j2 c2] X.env = [(false, eval (.Constant (.str y) j0 c0) X.env), (false, eval (.Constant (.str z) j1 c1) X.env), (false, eval (.Constant (.int 1) j2 c2) X.env)] := by rfl)
    (hbase : attributeBase o "replace" X.env (eval o X.env) = eval o X.env := by rfl) (hline : (apos.endLine == pos.line) = true := by rfl) :
    DET X (.Call (.Attribute o "replace" apos) [.Constant (.str y) j0 c0, .Constant (.str z) j1 c1, .Constant (.int 1) j2 c2] [] pos) ρ μ (.str (rep1 x y z)) μ1 := fun ad σ H Q R f =>
  wET.of (pet_rep1 (pe_w o) hyz hlz hst hbase hline) (ho ad σ H _ R fun ad1 v H1 s1 m1 r1 => ⟨x, r1.str_inv, hx, f ad1 _ H1 s1 m1 (Rp.str' _)⟩)
end
end L3

/-! L3: what text writes a spiral. -/
namespace L3
open PySem PySem.Spec L2 TL PyProof.Rows
def dgV (l : List Nat) : Int := ((NumText.digitsVal l : Nat) : Int)
/-- the number that a word writes -/
def valW (l : List Nat) : Int := if l.take 1 = [45] then -dgV (bareL l) else dgV (bareL l)
/-- the text writes the spiral -/
def DueOk (z : Str) (s : Int) (h : Fin 4) (t : Bool) : Prop := ∃ a : Str, wds z = [a, hdS h, tnS t] ∧ isNumL (tl a) = true ∧ valW (tl a) = s
theorem dgV_snoc (l : List Nat) {c : Nat} (h : c ∈ figs) : dgV (l ++ [c]) = dgV l * 10 + ((c : Nat) - 48 : Int) := by
  have := mem_figs.mp h
  unfold dgV
  rw [NumText.digitsVal_snoc]
  omega
theorem dgV_b {l : List Nat} (hf : ∀ c ∈ l, c ∈ figs) : B (4 * l.length) (dgV l) := by
  have key : ∀ n : Nat, ∀ l : List Nat, l.length = n → (∀ c ∈ l, c ∈ figs) → NumText.digitsVal l < 2 ^ (4 * n) := by
    intro n
    induction n with
    | zero =>
      intro l hl _
      rw [List.length_eq_zero_iff.mp hl]
      exact Nat.one_pos
    | succ n ih =>
      intro l hl hf
      have hne : l ≠ [] := by intro e; rw [e] at hl; simp at hl
      obtain ⟨m, c, rfl⟩ : ∃ m c, l = m ++ [c] := ⟨l.dropLast, l.getLast hne, (List.dropLast_concat_getLast hne).symm⟩
      have h1 := ih m (by simpa using hl) fun c hc => hf c (List.mem_append_left _ hc)
      have h2 := mem_figs.mp (hf c (by simp))
      rw [NumText.digitsVal_snoc, show 4 * (n + 1) = 4 * n + 4 by omega, Nat.pow_add]
      omega
  unfold B dgV
  exact key l.length l rfl hf
theorem fig_find {c : Nat} (h : c ∈ figs) : Txt.find ("0123456789" : Str) ⟨#[c]⟩ = ((c : Nat) - 48 : Int) := by
  simp only [figs, List.mem_cons, List.not_mem_nil, or_false] at h
  rcases h with e | e | e | e | e | e | e | e | e | e <;> subst e <;> decide +kernel
theorem num_all {l : List Nat} (h : isNumL l = true) : bareL l ≠ [] ∧ ∀ c ∈ bareL l, c ∈ figs := by
  unfold isNumL at h
  rw [Bool.and_eq_true, Bool.and_eq_true] at h
  obtain ⟨⟨h1, h2⟩, _⟩ := h
  refine ⟨fun e => (by rw [e] at h1; cases h1), fun c hc => ?_⟩
  rw [List.all_eq_true] at h2
  exact of_decide_eq_true (h2 c hc)
theorem int_word {z : Str} (h : isNumL (tl z) = true) (hl : z.length ≤ 4300) : intText? z = some (valW (tl z)) := by
  obtain ⟨hne, hf⟩ := num_all h
  have hd : NumText.AllDigits (bareL (tl z)) := fun c hc => mem_figs.mp (hf c hc)
  unfold valW
  by_cases h1 : (tl z).take 1 = [45]
  · rw [if_pos h1]
    have hb : bareL (tl z) = (tl z).drop 1 := by unfold bareL; rw [if_pos h1]
    have hz : z.cps.toList = 45 :: bareL (tl z) := by
      rw [hb]
      have := List.take_append_drop 1 (tl z)
      rw [h1] at this
      exact this.symm
    exact intText_neg hz hd hne hl
  · rw [if_neg h1]
    have hb : bareL (tl z) = tl z := by unfold bareL; rw [if_neg h1]
    rw [hb] at hd hne ⊢
    exact intText_digits hd hne hl
theorem num_bad {l : List Nat} {c : Nat} (hc : c ∈ bareL l) (h : c ∉ figs) : isNumL l = false := by
  cases q : isNumL l with
  | false => rfl
  | true => exact absurd ((num_all q).2 c hc) h
theorem str0 {z : Str} : (z = "0") ↔ tl z = [48] := by
  have h48 : tl ("0" : Str) = [48] := by decide +kernel
  exact ⟨fun e => by rw [e]; exact h48, fun e => ext_tl (e.trans h48.symm)⟩
theorem num_test {z bare : Str} (tb : tl bare = bareL (tl z)) (hf : ∀ c ∈ tl bare, c ∈ figs) :
    (decide (bare = "") || (decide (cutS bare none (some 1) = "0") && !decide (z = "0"))) = !isNumL (tl z) := by
  have ha : (tl bare).all (fun c => decide (c ∈ figs)) = true := by
    rw [List.all_eq_true]
    exact fun c hc => decide_eq_true (hf c hc)
  have e1 : (cutS bare none (some 1) = "0") ↔ (tl bare).head? = some 48 := by
    rw [str0, tl_cut1]
    cases tl bare with
    | nil => simp
    | cons c r => simp
  have e2 : (bare = "") ↔ (tl bare) = [] := eq_empty
  unfold isNumL
  rw [← tb, ha]
  simp only [e1, e2, str0]
  cases tl bare with
  | nil => simp
  | cons c r => simp
theorem inV_str (b : Str) (xs : List Str) : inV (pvV (.str b)) ((xs.map PV.str).map pvV) = decide (b ∈ xs) := by
  unfold inV
  induction xs with
  | nil => rfl
  | cons x xs ih =>
    rw [List.map_cons, List.map_cons, List.any_cons, ih]
    show (x == b || decide (b ∈ xs)) = _
    by_cases h : x = b
    · subst h
      simp
    · have h' : ¬ b = x := fun e => h e.symm
      simp [h, h']
def hdL : List Str := ["e", "n", "w", "s"]
def tnL : List Str := ["l", "r"]
theorem hd_mem {b : Str} (h : b ∈ hdL) : ∃ h : Fin 4, b = hdS h := by
  simp only [hdL, List.mem_cons, List.not_mem_nil, or_false] at h
  rcases h with e | e | e | e <;> subst e
  · exact ⟨0, by decide +kernel⟩
  · exact ⟨1, by decide +kernel⟩
  · exact ⟨2, by decide +kernel⟩
  · exact ⟨3, by decide +kernel⟩
theorem hd_memS (h : Fin 4) : hdS h ∈ hdL := by revert h; decide +kernel
theorem tn_mem {b : Str} (h : b ∈ tnL) : ∃ t : Bool, b = tnS t := by
  simp only [tnL, List.mem_cons, List.not_mem_nil, or_false] at h
  rcases h with e | e <;> subst e
  · exact ⟨false, by decide +kernel⟩
  · exact ⟨true, by decide +kernel⟩
theorem tn_memS (t : Bool) : tnS t ∈ tnL := by revert t; decide +kernel
theorem hd_sign {c : Nat} (h : c ∈ tl ("enws" : Str)) : ∃ h : Fin 4, (⟨#[c]⟩ : Str) = hdS h := by
  have e : tl ("enws" : Str) = [101, 110, 119, 115] := by decide +kernel
  rw [e] at h
  simp only [List.mem_cons, List.not_mem_nil, or_false] at h
  rcases h with e | e | e | e <;> subst e
  · exact ⟨0, by decide +kernel⟩
  · exact ⟨1, by decide +kernel⟩
  · exact ⟨2, by decide +kernel⟩
  · exact ⟨3, by decide +kernel⟩
theorem tn_sign {c : Nat} (h : c ∈ tl ("lr" : Str)) : ∃ t : Bool, (⟨#[c]⟩ : Str) = tnS t := by
  have e : tl ("lr" : Str) = [108, 114] := by decide +kernel
  rw [e] at h
  simp only [List.mem_cons, List.not_mem_nil, or_false] at h
  rcases h with e | e <;> subst e
  · exact ⟨false, by decide +kernel⟩
  · exact ⟨true, by decide +kernel⟩
theorem len_one {z : Str} (h : z.length = 1) : ∃ c, z = ⟨#[c]⟩ := by
  have h' : (tl z).length = 1 := by rw [← len_tl]; exact h
  obtain ⟨c, e⟩ := List.length_eq_one_iff.mp h'
  exact ⟨c, ext_tl e⟩
theorem due_val {z : Str} {n : Int} (h : dgV (bareL (tl z)) = n) : n * (if (decide (cutS z none (some 1) = "-")) = true then -1 else 1) = valW (tl z) := by
  unfold valW
  have e : (cutS z none (some 1) = "-") ↔ (tl z).take 1 = [45] := by
    have e45 : tl ("-" : Str) = [45] := by decide +kernel
    constructor
    · intro q
      rw [← tl_cut1, q]
      exact e45
    · intro q
      exact ext_tl (tl_cut1.trans (q.trans e45.symm))
  by_cases q : (tl z).take 1 = [45]
  · rw [decide_eq_true (e.mpr q), if_pos rfl, if_pos q, h]
    omega
  · rw [decide_eq_false (fun z => q (e.mp z)), if_neg (by decide), if_neg q, h]
    omega
theorem shownT {s : Int} {h : Fin 4} {t : Bool} (bs : B 100 s) : TxOk 36 (shownS s h t) := by
  refine ⟨?_, strOk_wrd fun p hp => ?_⟩
  · have h1 := nS_33 bs
    rw [len_tl, tl_nS] at h1
    rw [len_tl, tl_shown]
    simp only [List.length_append, List.length_cons, List.length_nil]
    omega
  · simp only [List.mem_cons, List.not_mem_nil, or_false] at hp
    rcases hp with e | e | e <;> subst e
    · exact nS_ok
    · exact hd_ok h
    · exact tn_ok t
def spiT : PV := .tup [.str "spiral"]
end L3

namespace L3
open PySem PySem.Spec L2 TL
def top (i : Nat) : Stmt := PySem.Challenge.pw_laidround_k02_texts_of_no_spirals.main.body.getD i (.Pass ⟨0, 0, 0, 0⟩)
abbrev s_is_number_word : Stmt := top 10
abbrev s_read_spiral : Stmt := top 11
abbrev s_law_mix : Stmt := top 13
abbrev s_law_deck : Stmt := top 14
abbrev s_law_next : Stmt := top 15
abbrev s_law_great : Stmt := top 16
abbrev s_law_spiral : Stmt := top 17
abbrev s_law_kind : Stmt := top 18
abbrev s_law_sign : Stmt := top 19
abbrev s_law_spoilt : Stmt := top 20
abbrev s_law_due : Stmt := top 21
abbrev s_law_right : Stmt := top 22
abbrev s_law : Stmt := top 23
abbrev s_noinit : Stmt := (clsBody (top 2)).getD 0 (.Pass ⟨0, 0, 0, 0⟩)
def cc4 (a b c d : Addr) : Fin 4 → Addr := fun i => match i with | 0 => a | 1 => b | 2 => c | 3 => d
structure Txt (K : PySem.W.Frag) (mg : Str → Option Value) (CC : Fin 4 → Addr) (C0 : Addr) : Prop where
  d_is_number_word : DefAt K mg "is_number_word" s_is_number_word ["word"]
  d_read_spiral : DefAt K mg "read_spiral" s_read_spiral ["text"]
  d_law_mix : DefAt K mg "_law_mix" s_law_mix ["cell", "k"]
  d_law_deck : DefAt K mg "_law_deck" s_law_deck ["script"]
  d_law_next : DefAt K mg "_law_next" s_law_next ["deck", "many"]
  d_law_great : DefAt K mg "_law_great" s_law_great ["deck", "most"]
  d_law_spiral : DefAt K mg "_law_spiral" s_law_spiral ["deck"]
  d_law_kind : DefAt K mg "_law_kind" s_law_kind ["caught"]
  d_law_sign : DefAt K mg "_law_sign" s_law_sign ["deck"]
  d_law_spoilt : DefAt K mg "_law_spoilt" s_law_spoilt ["deck", "text"]
  d_law_due : DefAt K mg "_law_due" s_law_due ["text"]
  d_law_right : DefAt K mg "_law_right" s_law_right ["text"]
  c_FIGURES : ∃ t, mg "FIGURES" = some (.str "0123456789" t)
  c_HEADINGS : ∃ t, mg "HEADINGS" = some (.str "enws" t)
  c_TURNS : ∃ t, mg "TURNS" = some (.str "lr" t)
  z_sum : mg "sum" = none
  z_len : mg "len" = none
  z_range : mg "range" = none
  z_str : mg "str" = none
  z_int : mg "int" = none
  z_abs : mg "abs" = none
  z_isinstance : mg "isinstance" = none
  z_tuple : mg "tuple" = none
  z_bool : mg "bool" = none
  z_max : mg "max" = none
  z_ValueError : mg "ValueError" = none
  no : NoTxt K mg s_noinit (CC 1) C0
  k_NoBox : mg "NoBox" = some (.ref (CC 0))
  k_NoNumber : mg "NoNumber" = some (.ref (CC 1))
  k_NoSpiral : mg "NoSpiral" = some (.ref (CC 2))
  k_NoAsk : mg "NoAsk" = some (.ref (CC 3))
  o_NoBox : OwX K mg "NoBox" (CC 0)
  o_NoSpiral : OwX K mg "NoSpiral" (CC 2)
  o_NoAsk : OwX K mg "NoAsk" (CC 3)
  x_is : ∀ i, IsX K (CC i)
  x_k : ∀ i j, PySem.W.kitOne K (.ref (CC i)) (.ref (CC j)) = some (decide (i = j))
  x_0 : ∀ i, PySem.W.kitOne K (.ref (CC i)) (.ref C0) = some true
  x_v : ∀ i, PySem.W.kitOne K (.ref (CC i)) (.type "ValueError") = some true
  x_e : ∀ i, PySem.W.exmOne K (.ref (CC i)) (.ref C0) = some true
  x_s : ∀ i, PySem.W.findIn K (.ref (CC i)) "__str__" = some (some (.builtin "BaseException.__str__"))
section
variable {P : Program} {w : World} {K : PySem.W.Frag} {mg : Str → Option Value} {base : Heap} {CC : Fin 4 → Addr} {C0 : Addr}
theorem sc_is_number_word : FnScope ["word", "bare", "sign"] ["word"] (defScope s_is_number_word) := ⟨rfl, rfl, rfl, by decide +kernel, rfl, by decide +kernel, by decide +kernel⟩
def A_is_number_word : ASp := fun args μ Q _ => ∃ z : Str, args = [.str z] ∧ z.length ≤ 900 ∧ PyData.strOk z = true ∧ Q (.bl (isNumL (tl z))) μ
theorem ok_is_number_word (T : Txt K mg CC C0) : FnA P w K mg base 1 "is_number_word" A_is_number_word := by
  refine T.d_is_number_word.ok sc_is_number_word (by rintro _ _ _ _ ⟨_, rfl, _⟩; rfl) ?_
  rintro X _ μ Q E cx ⟨z, rfl, hl, hz, hQ⟩
  have cd := cx.toCxD
  have v0 : ∀ {pos : Pos}, PE X (.Name "word" pos) (tVar 0) := cx.var 0 rfl (by decide +kernel)
  have v1 : ∀ {pos : Pos}, PE X (.Name "bare" pos) (tVar 1) := cx.var 1 rfl (by decide +kernel)
  have g_int : (defScope s_is_number_word).names.lookup ("int" : Str) = some .globalImplicit := by decide +kernel
  show DSs X _ [_, _, _] _ _
  refine cx.setG 1 rfl (by decide +kernel) (DE.slice (DE.pe v0 rfl) (DO.some (DE.callTy cd g_int T.z_int boot_int (DA.cons (DE.cmp (DE.slice (DE.pe v0 rfl) DO.none (DO.some (DE.int)) (sa_str (small900 hl))) (DE.str) oa_eqS) (DA.nil)) ca_intB)) DO.none (sa_str (small900 hl))) ?_
  generalize hb : cutS z _ _ = bare
  have tb : tl bare = bareL (tl z) := by
    rw [← hb]
    exact tl_bare
  have lb : bare.length ≤ 900 := by rw [← hb]; exact Nat.le_trans (cutS_length _ _ _) hl
  have zb : ∀ c ∈ tl bare, c < 0x110000 := fun c hc => strOk_mem hz (bareL_sub (by rw [← tb]; exact hc))
  show DSs X _ [_, _, _] _ _
  refine DSs.ifc (DW.t (DW.or (DT.cmp (DE.pe v1 rfl) DE.str oa_eqS) (fun _ => DW.or1 (DT.cmp (DE.comp cx (DI.str (DE.pe v1 rfl)) (by decide +kernel) (own := [("sign", 2)]) (Tgt.name cx.nd 2 rfl (by decide +kernel)) (by decide) notFig trivial (signs_len lb) ?_) (DE.lst DA.nil) (oa_neD cd.room.units ?_ rfl ?_ rfl))))) (fun hc => ?_) (fun hc => ?_)
  · intro p hp
    obtain ⟨c, hc, rfl⟩ := mem_signs hp
    refine ⟨_, rfl, ?_⟩
    by_cases hf : c ∈ figs
    · refine .inl ⟨notFig_in hf, fun X' cx' => WTs.one (WT.of (DT.cmp (DE.pe (cx'.var (x := "sign") 2 rfl (by decide +kernel)) rfl) (DE.globS cx' (by decide +kernel) T.c_FIGURES) oa_notInC) ⟨?_, rfl⟩)⟩
      rw [decide_eq_true (show c ∈ tl "0123456789" from hf)]
      rfl
    · refine .inr ⟨_, notFig_out hf, fun X' cx' => WTs.one (WT.of (DT.cmp (DE.pe (cx'.var (x := "sign") 2 rfl (by decide +kernel)) rfl) (DE.globS cx' (by decide +kernel) T.c_FIGURES) oa_notInC) ⟨?_, rfl⟩), fun X' cx' => DE.pe (cx'.var (x := "sign") 2 rfl (by decide +kernel)) rfl⟩
      rw [decide_eq_false (show ¬ c ∈ tl "0123456789" from hf)]
      rfl
  · exact okDL_strs notFig_strs
  · exact shaped_strs (notFig_ok zb)
  · refine DSs.ret1 DE.bl ?_
    refine fin_same hQ ?_
    refine congrArg PV.bl (isNum_no (μ := μ) (bare := bare) tb ?_).symm
    exact hc
  · refine DSs.nil ?_
    show DSs X _ [_, _, _] _ _
    obtain ⟨c, hc0, hcB⟩ := isNum_bare (bare := bare) tb hc
    refine DSs.ret1 (DE.or (DE.cmp (DE.ixS (DE.pe v1 rfl) DE.int hc0 (small900 lb)) DE.str oa_neS) (fun _ => DE.one (DE.cmp (DE.pe v0 rfl) DE.str oa_eqS))) ?_
    exact fin_same hQ (congrArg PV.bl hcB)
theorem sc_read_spiral : FnScope ["text", "words"] ["text"] (defScope s_read_spiral) := ⟨rfl, rfl, rfl, by decide +kernel, rfl, by decide +kernel, by decide +kernel⟩
def A_read_spiral : ASp := fun args μ Q _ => ∃ (z : Str) (s : Int) (h : Fin 4) (t : Bool), args = [.str z] ∧ TxOk 600 z ∧ DueOk z s h t ∧ Q (spP s h t) μ
theorem ok_read_spiral (T : Txt K mg CC C0) : FnA P w K mg base 2 "read_spiral" A_read_spiral := by
  refine T.d_read_spiral.ok sc_read_spiral (by rintro _ _ _ _ ⟨_, _, _, _, rfl, _⟩; rfl) ?_
  rintro X _ μ Q E cx ⟨z, s, h, t, rfl, hz, hd, hQ⟩
  have cd := cx.toCxD
  have v0 : ∀ {pos : Pos}, PE X (.Name "text" pos) (tVar 0) := cx.var 0 rfl (by decide +kernel)
  have v1 : ∀ {pos : Pos}, PE X (.Name "words" pos) (tVar 1) := cx.var 1 rfl (by decide +kernel)
  have g_len : (defScope s_read_spiral).names.lookup ("len" : Str) = some .globalImplicit := by decide +kernel
  have g_is_number_word : (defScope s_read_spiral).names.lookup ("is_number_word" : Str) = some .globalImplicit := by decide +kernel
  have g_NoSpiral : (defScope s_read_spiral).names.lookup ("NoSpiral" : Str) = some .globalImplicit := by decide +kernel
  have g_HEADINGS : (defScope s_read_spiral).names.lookup ("HEADINGS" : Str) = some .globalImplicit := by decide +kernel
  have g_TURNS : (defScope s_read_spiral).names.lookup ("TURNS" : Str) = some .globalImplicit := by decide +kernel
  have g_int : (defScope s_read_spiral).names.lookup ("int" : Str) = some .globalImplicit := by decide +kernel
  have F_is_number_word := ok_is_number_word (P := P) (w := w) (base := base) T
  obtain ⟨a, e, hn, rfl⟩ := hd
  have ha : TxOk 600 a := hz.word (by rw [e]; exact List.mem_cons_self)
  show DSs X _ [_, _] _ _
  refine CxF.setP (q := .lst (([a, hdS h, tnS t] : List Str).map PV.str)) cx 1 rfl (by decide +kernel) (DE.cast (DE.bmS PySem.F.slot_str_split PySem.F.type_str_split (DE.pe v0 rfl) (DA.cons DE.str DA.nil) (ma_split rfl (le_line (by have := hz.1; omega)))) (congrArg PV.lst (congrArg (List.map PV.str) e))) ?_
  show DSs X _ [_, _] _ _
  refine DSs.ifc (kb := false) (DT.cast (DW.t (DW.or (DT.cmp (DE.callB cd g_len T.z_len boot_len (DA.cons (DE.pe v1 rfl) DA.nil) (ca_len rfl)) DE.int oa_ne) (fun _ => DW.or1 (DT.not (DT.val (DE.call cd F_is_number_word (by decide) g_is_number_word (DA.cons (DE.ixL (DE.pe v1 rfl) DE.int rfl rfl) DA.nil) ⟨_, rfl, by have := ha.1; omega, ha.2, rfl, rfl⟩)))))) (by rw [hn]; rfl)) (fun hc => by cases hc) (fun _ => DSs.nil ?_)
  show DSs X _ [_, _] _ _
  refine DSs.ifc (kb := false) (DT.cast (DW.t (DW.or (DT.cmp (DE.callB cd g_len T.z_len boot_len (DA.cons (DE.ixL (DE.pe v1 rfl) DE.int rfl rfl) DA.nil) (ca_lenS (le_line (Nat.le_of_ble_eq_true rfl)))) DE.int oa_ne) (fun _ => DW.or (DT.cmp (DE.ixL (DE.pe v1 rfl) DE.int rfl rfl) (DE.globS cd g_HEADINGS T.c_HEADINGS) oa_notInS) (fun _ => DW.or (DT.cmp (DE.callB cd g_len T.z_len boot_len (DA.cons (DE.ixL (DE.pe v1 rfl) DE.int rfl rfl) DA.nil) (ca_lenS (le_line (Nat.le_of_ble_eq_true rfl)))) DE.int oa_ne) (fun _ => DW.or1 (DT.cmp (DE.ixL (DE.pe v1 rfl) DE.int rfl rfl) (DE.globS cd g_TURNS T.c_TURNS) oa_notInS)))))) (by rw [hd_in, tn_in, hd_len, tn_len]; rfl)) (fun hc => by cases hc) (fun _ => DSs.nil ?_)
  show DSs X _ [_, _] _ _
  refine DSs.ret1 (DE.tup (DA.cons (DE.callTy cd g_int T.z_int boot_int (DA.cons (DE.ixL (DE.pe v1 rfl) DE.int rfl rfl) DA.nil) (ca_intS (int_word hn (by have := ha.1; omega)) (by have := ha.1; omega))) (DA.cons (DE.ixL (DE.pe v1 rfl) DE.int rfl rfl) (DA.cons (DE.ixL (DE.pe v1 rfl) DE.int rfl rfl) DA.nil)))) ?_
  exact fin_same hQ rfl
def AX_read_spiral (CC : Fin 4 → Addr) : ASp := fun args μ _ E => ∃ z : Str, args = [.str z] ∧ TxOk 600 z ∧ (∀ s h t, ¬ DueOk z s h t) ∧ E (txX (CC 2)) μ
theorem okX_read_spiral (T : Txt K mg CC C0) : FnA P w K mg base 2 "read_spiral" (AX_read_spiral CC) := by
  refine T.d_read_spiral.okX sc_read_spiral (by rintro _ _ _ _ ⟨_, rfl, _⟩; rfl) ?_
  rintro X _ μ Q E cx ⟨z, rfl, hz, hd, hE⟩
  have cd := cx.toCxD
  have v0 : ∀ {pos : Pos}, PE X (.Name "text" pos) (tVar 0) := cx.var 0 rfl (by decide +kernel)
  have v1 : ∀ {pos : Pos}, PE X (.Name "words" pos) (tVar 1) := cx.var 1 rfl (by decide +kernel)
  have g_len : (defScope s_read_spiral).names.lookup ("len" : Str) = some .globalImplicit := by decide +kernel
  have g_is_number_word : (defScope s_read_spiral).names.lookup ("is_number_word" : Str) = some .globalImplicit := by decide +kernel
  have g_NoSpiral : (defScope s_read_spiral).names.lookup ("NoSpiral" : Str) = some .globalImplicit := by decide +kernel
  have g_HEADINGS : (defScope s_read_spiral).names.lookup ("HEADINGS" : Str) = some .globalImplicit := by decide +kernel
  have g_TURNS : (defScope s_read_spiral).names.lookup ("TURNS" : Str) = some .globalImplicit := by decide +kernel
  have g_int : (defScope s_read_spiral).names.lookup ("int" : Str) = some .globalImplicit := by decide +kernel
  have F_is_number_word := ok_is_number_word (P := P) (w := w) (base := base) T
  by_cases h3 : (wds z).length = 3
  · obtain ⟨a, b, c, e⟩ : ∃ a b c, wds z = [a, b, c] := by
      rcases hw : wds z with _ | ⟨a, _ | ⟨b, _ | ⟨c, _ | ⟨d, r⟩⟩⟩⟩
      · rw [hw] at h3; cases h3
      · rw [hw] at h3; cases h3
      · rw [hw] at h3; cases h3
      · exact ⟨a, b, c, rfl⟩
      · rw [hw] at h3; simp at h3
    have ha : TxOk 600 a := hz.word (by rw [e]; simp)
    have hb : TxOk 600 b := hz.word (by rw [e]; simp)
    have hc : TxOk 600 c := hz.word (by rw [e]; simp)
    show DSs X _ [_, _] _ _
    refine CxF.setP (q := .lst (([a, b, c] : List Str).map PV.str)) cx 1 rfl (by decide +kernel) (DE.cast (DE.bmS PySem.F.slot_str_split PySem.F.type_str_split (DE.pe v0 rfl) (DA.cons DE.str DA.nil) (ma_split rfl (le_line (by have := hz.1; omega)))) (congrArg PV.lst (congrArg (List.map PV.str) e))) ?_
    show DSs X _ [_, _] _ _
    by_cases hn : isNumL (tl a) = true
    · refine DSs.ifc (kb := false) (DT.cast (DW.t (DW.or (DT.cmp (DE.callB cd g_len T.z_len boot_len (DA.cons (DE.pe v1 rfl) DA.nil) (ca_len rfl)) DE.int oa_ne) (fun _ => DW.or1 (DT.not (DT.val (DE.call cd F_is_number_word (by decide) g_is_number_word (DA.cons (DE.ixL (DE.pe v1 rfl) DE.int rfl rfl) DA.nil) ⟨_, rfl, by have := ha.1; omega, ha.2, rfl, rfl⟩)))))) (by rw [hn]; rfl)) (fun hc => by cases hc) (fun _ => DSs.nil ?_)
      show DSs X _ [_, _] _ _
      by_cases b1 : b.length = 1
      · obtain ⟨x, rfl⟩ := len_one b1
        by_cases bx : x ∈ tl ("enws" : Str)
        · obtain ⟨h, eh⟩ := hd_sign bx
          by_cases c1 : c.length = 1
          · obtain ⟨y, rfl⟩ := len_one c1
            by_cases cy : y ∈ tl ("lr" : Str)
            · obtain ⟨t, et⟩ := tn_sign cy
              exact absurd ⟨a, by rw [e, eh, et], hn, rfl⟩ (hd (valW (tl a)) h t)
            · exact DSs.ifc (kb := true) (DW.t (DW.orF (DT.cast (DT.cmp (DE.callB cd g_len T.z_len boot_len (DA.cons (DE.ixL (DE.pe v1 rfl) DE.int rfl rfl) DA.nil) (ca_lenS (le_line (by have := hb.1; omega)))) DE.int oa_ne) rfl) (DW.orF (DT.cast (DT.cmp (DE.ixL (DE.pe v1 rfl) DE.int rfl rfl) (DE.globS cd g_HEADINGS T.c_HEADINGS) oa_notInC) (by rw [decide_eq_true bx]; rfl)) (DW.orF (DT.cast (DT.cmp (DE.callB cd g_len T.z_len boot_len (DA.cons (DE.ixL (DE.pe v1 rfl) DE.int rfl rfl) DA.nil) (ca_lenS (le_line (by have := hc.1; omega)))) DE.int oa_ne) rfl) (DW.or1 (DT.cast (DT.cmp (DE.ixL (DE.pe v1 rfl) DE.int rfl rfl) (DE.globS cd g_TURNS T.c_TURNS) oa_notInC) (by rw [decide_eq_false cy]; rfl))))))) (fun _ => DSs.cons (DS.raiseTxt cd T.o_NoSpiral g_NoSpiral hE)) (fun hc => by cases hc)
          · exact DSs.ifc (kb := true) (DW.t (DW.orF (DT.cast (DT.cmp (DE.callB cd g_len T.z_len boot_len (DA.cons (DE.ixL (DE.pe v1 rfl) DE.int rfl rfl) DA.nil) (ca_lenS (le_line (by have := hb.1; omega)))) DE.int oa_ne) rfl) (DW.orF (DT.cast (DT.cmp (DE.ixL (DE.pe v1 rfl) DE.int rfl rfl) (DE.globS cd g_HEADINGS T.c_HEADINGS) oa_notInC) (by rw [decide_eq_true bx]; rfl)) (DW.orT (DT.cast (DT.cmp (DE.callB cd g_len T.z_len boot_len (DA.cons (DE.ixL (DE.pe v1 rfl) DE.int rfl rfl) DA.nil) (ca_lenS (le_line (by have := hc.1; omega)))) DE.int oa_ne) (by rw [decide_eq_false (show ¬ ((c.length : Nat) : Int) = 1 by omega)]; rfl)))))) (fun _ => DSs.cons (DS.raiseTxt cd T.o_NoSpiral g_NoSpiral hE)) (fun hc => by cases hc)
        · exact DSs.ifc (kb := true) (DW.t (DW.orF (DT.cast (DT.cmp (DE.callB cd g_len T.z_len boot_len (DA.cons (DE.ixL (DE.pe v1 rfl) DE.int rfl rfl) DA.nil) (ca_lenS (le_line (by have := hb.1; omega)))) DE.int oa_ne) rfl) (DW.orT (DT.cast (DT.cmp (DE.ixL (DE.pe v1 rfl) DE.int rfl rfl) (DE.globS cd g_HEADINGS T.c_HEADINGS) oa_notInC) (by rw [decide_eq_false bx]; rfl))))) (fun _ => DSs.cons (DS.raiseTxt cd T.o_NoSpiral g_NoSpiral hE)) (fun hc => by cases hc)
      · exact DSs.ifc (kb := true) (DW.t (DW.orT (DT.cast (DT.cmp (DE.callB cd g_len T.z_len boot_len (DA.cons (DE.ixL (DE.pe v1 rfl) DE.int rfl rfl) DA.nil) (ca_lenS (le_line (by have := hb.1; omega)))) DE.int oa_ne) (by rw [decide_eq_false (show ¬ ((b.length : Nat) : Int) = 1 by omega)]; rfl)))) (fun _ => DSs.cons (DS.raiseTxt cd T.o_NoSpiral g_NoSpiral hE)) (fun hc => by cases hc)
    · exact DSs.ifc (kb := true) (DT.cast (DW.t (DW.or (DT.cmp (DE.callB cd g_len T.z_len boot_len (DA.cons (DE.pe v1 rfl) DA.nil) (ca_len rfl)) DE.int oa_ne) (fun _ => DW.or1 (DT.not (DT.val (DE.call cd F_is_number_word (by decide) g_is_number_word (DA.cons (DE.ixL (DE.pe v1 rfl) DE.int rfl rfl) DA.nil) ⟨_, rfl, by have := ha.1; omega, ha.2, rfl, rfl⟩)))))) (by rw [Bool.eq_false_iff.mpr hn]; rfl)) (fun _ => DSs.cons (DS.raiseTxt cd T.o_NoSpiral g_NoSpiral hE)) (fun hc => by cases hc)
  · show DSs X _ [_, _] _ _
    refine CxF.setP (q := .lst ((wds z).map PV.str)) cx 1 rfl (by decide +kernel) (DE.cast (DE.bmS PySem.F.slot_str_split PySem.F.type_str_split (DE.pe v0 rfl) (DA.cons DE.str DA.nil) (ma_split rfl (le_line (by have := hz.1; omega)))) (congrArg PV.lst rfl)) ?_
    show DSs X _ [_, _] _ _
    exact DSs.ifc (kb := true) (DW.t (DW.orT (DT.cast (DT.cmp (DE.callB cd g_len T.z_len boot_len (DA.cons (DE.pe v1 rfl) DA.nil) (ca_len rfl)) DE.int oa_ne) (by rw [List.length_map, decide_eq_false (show ¬ (((wds z).length : Nat) : Int) = 3 by omega)]; rfl)))) (fun _ => DSs.cons (DS.raiseTxt cd T.o_NoSpiral g_NoSpiral hE)) (fun hc => by cases hc)
theorem sc_law_mix : FnScope ["cell", "k", "number"] ["cell", "k"] (defScope s_law_mix) := ⟨rfl, rfl, rfl, by decide +kernel, rfl, by decide +kernel, by decide +kernel⟩
def A_law_mix : ASp := fun args μ Q _ => ∃ cell k : Int, args = [.int cell, .int k] ∧ B 200 k ∧ ∀ r : Int, Q (.int r) μ
theorem ok_law_mix (T : Txt K mg CC C0) : FnA P w K mg base 1 "_law_mix" A_law_mix := by
  refine T.d_law_mix.ok sc_law_mix (by rintro _ _ _ _ ⟨_, _, rfl, _⟩; rfl) ?_
  rintro X _ μ Q E cx ⟨cell, k, rfl, bk, hQ⟩
  have cd := cx.toCxD
  have v0 : ∀ {pos : Pos}, PE X (.Name "cell" pos) (tVar 0) := cx.var 0 rfl (by decide +kernel)
  have v1 : ∀ {pos : Pos}, PE X (.Name "k" pos) (tVar 1) := cx.var 1 rfl (by decide +kernel)
  have v2 : ∀ {pos : Pos}, PE X (.Name "number" pos) (tVar 2) := cx.var 2 rfl (by decide +kernel)
  show DSs X _ [_, _, _] _ _
  refine cx.setG 2 rfl (by decide +kernel) (DE.bin (DE.bin (DE.pe v0 rfl) (DE.int) (oa_mod (by decide : (0 : Int) < 2147483629))) (DE.bin (DE.bin (DE.int) (DE.pe v1 rfl) (oa_mul (mulW (show B 20 (1000003 : Int) by decide) bk (by decide)))) (DE.pe v1 rfl) (oa_mul (mulW (B.mul (show B 20 (1000003 : Int) by decide) bk) bk (by decide)))) oa_add) ?_
  intro number1 e_number1
  have b_number1 := B.eq e_number1 (B.add (B.mod (by decide : (0 : Int) < 2147483629) (show B 31 (2147483629 : Int) by decide)) (B.mul (B.mul (show B 20 (1000003 : Int) by decide) bk) bk))
  show DSs X _ [_, _, _] _ _
  refine cx.setG 2 rfl (by decide +kernel) (DE.bin (DE.bin (DE.pe v2 rfl) (DE.bin (DE.int) (DE.pe v1 rfl) (oa_mul (mulW (show B 13 (7919 : Int) by decide) bk (by decide)))) oa_add) (DE.int) (oa_mod (by decide : (0 : Int) < 2147483629))) ?_
  intro number2 e_number2
  have b_number2 := B.eq e_number2 (B.mod (by decide : (0 : Int) < 2147483629) (show B 31 (2147483629 : Int) by decide))
  show DSs X _ [_, _, _] _ _
  refine cx.setG 2 rfl (by decide +kernel) (DE.bin (DE.bin (DE.pe v2 rfl) (DE.pe v2 rfl) (oa_mul (mulW b_number2 b_number2 (by decide)))) (DE.int) (oa_mod (by decide : (0 : Int) < 2147483587))) ?_
  intro number3 e_number3
  have b_number3 := B.eq e_number3 (B.mod (by decide : (0 : Int) < 2147483587) (show B 31 (2147483587 : Int) by decide))
  show DSs X _ [_, _, _] _ _
  refine DSs.ret1 (DE.bin (DE.bin (DE.bin (DE.pe v2 rfl) (DE.bin (DE.pe v2 rfl) (DE.int) oa_add) (oa_mul (mulW b_number3 (B.add b_number3 (show B 16 (40961 : Int) by decide)) (by decide)))) (DE.int) (oa_mod (by decide : (0 : Int) < 2147483563))) (DE.int) (oa_div (divW (by decide : (0 : Int) < 4) (show B 3 (4 : Int) by decide) (by decide)))) ?_
  exact fin_same (hQ _) rfl
theorem sc_law_deck : FnScope ["script"] ["script"] (defScope s_law_deck) := ⟨rfl, rfl, rfl, by decide +kernel, rfl, by decide +kernel, by decide +kernel⟩
def A_law_deck : ASp := fun args μ Q _ => ∃ ns : List Int, args = [.scr (ns.map PV.int)] ∧ ns.length ≤ 63 ∧ Q (.obj μ.length) (μ ++ [deckMO ⟨ns, 0, 0, 0, ns.sum⟩])
theorem ok_law_deck (T : Txt K mg CC C0) : FnA P w K mg base 1 "_law_deck" A_law_deck := by
  refine T.d_law_deck.ok sc_law_deck (by rintro _ _ _ _ ⟨_, rfl, _⟩; rfl) ?_
  rintro X _ μ Q E cx ⟨ns, rfl, hl, hQ⟩
  have cd := cx.toCxD
  have v0 : ∀ {pos : Pos}, PE X (.Name "script" pos) (tVar 0) := cx.var 0 rfl (by decide +kernel)
  have g_sum : (defScope s_law_deck).names.lookup ("sum" : Str) = some .globalImplicit := by decide +kernel
  show DSs X _ [_] _ _
  refine DSs.ret1 (DE.lstO (DA.cons (DE.cast (DE.slice (DE.pe v0 rfl) DO.none (DO.some DE.int) (sa_lst rfl)) (congrArg PV.lst (cut_all (k := 63) (by simpa using hl)))) (DA.cons DE.int (DA.cons DE.int (DA.cons DE.int (DA.cons (DE.callB cd g_sum T.z_sum boot_sum (DA.cons (DE.cast (DE.slice (DE.pe v0 rfl) DO.none (DO.some DE.int) (sa_lst rfl)) (congrArg PV.lst (cut_all (k := 63) (by simpa using hl)))) DA.nil) (ca_sum (ns := ns) cx.calm rfl)) DA.nil)))))) ?_
  exact fin_same hQ rfl
theorem sc_law_next : FnScope ["deck", "many", "cell", "found"] ["deck", "many"] (defScope s_law_next) := ⟨rfl, rfl, rfl, by decide +kernel, rfl, by decide +kernel, by decide +kernel⟩
def A_law_next : ASp := fun args μ Q _ => ∃ (kd : Nat) (d : Deck) (n many : Int), args = [.obj kd, .int many] ∧ μ[kd]? = some (deckMO d) ∧ DkOk d n ∧ n ≤ 1000000000 ∧ 0 < many ∧ B 7000 many ∧
  ∀ (r : Int) (d' : Deck), 0 ≤ r → r < many → DkOk d' (n + 1) → Q (.int r) (μ.set kd (deckMO d'))
theorem ok_law_next (T : Txt K mg CC C0) : FnA P w K mg base 2 "_law_next" A_law_next := by
  refine T.d_law_next.ok sc_law_next (by rintro _ _ _ _ ⟨_, _, _, _, rfl, _⟩; rfl) ?_
  rintro X _ μ Q E cx ⟨kd, d, n, many, rfl, hD, hd, hn, pm, bm, hQ⟩
  have cd := cx.toCxD
  have v0 : ∀ {pos : Pos}, PE X (.Name "deck" pos) (tVar 0) := cx.var 0 rfl (by decide +kernel)
  have v1 : ∀ {pos : Pos}, PE X (.Name "many" pos) (tVar 1) := cx.var 1 rfl (by decide +kernel)
  have v2 : ∀ {pos : Pos}, PE X (.Name "cell" pos) (tVar 2) := cx.var 2 rfl (by decide +kernel)
  have v3 : ∀ {pos : Pos}, PE X (.Name "found" pos) (tVar 3) := cx.var 3 rfl (by decide +kernel)
  have g_len : (defScope s_law_next).names.lookup ("len" : Str) = some .globalImplicit := by decide +kernel
  have g_law_mix : (defScope s_law_next).names.lookup ("_law_mix" : Str) = some .globalImplicit := by decide +kernel
  have F_law_mix := ok_law_mix (P := P) (w := w) (base := base) T
  obtain ⟨cells, begun, left, mixed, total⟩ := d
  obtain ⟨k0, k1, k2, k3, k4⟩ := hd
  dsimp only at k0 k1 k2 k3 k4
  have bmx : B 200 (mixed + 1) := B.rng (a := 1000000001) (by omega) (by omega) (by decide)
  show DSs X _ [_, _, _, _] _ _
  have tail : ∀ (cv : Option PV) (bg lf : Int) (μ1 : Mem), μ1 = μ.set kd (deckMO ⟨cells, bg, lf, mixed, total⟩) → μ1[kd]? = some (deckMO ⟨cells, bg, lf, mixed, total⟩) → 0 ≤ bg → bg ≤ 63 →
      DSs X ((defBody s_law_next).drop 1) [some (.obj kd), some (.int many), cv, none] μ1 (fnEnds μ Q) := by
    intro cv bg lf μ1 eμ h1 b0 b1
    refine DSs.ifc (DT.cmp (DE.ixL (DE.pe v0 rfl) DE.int (asL_obj h1) rfl) DE.int oa_gt) (fun hc => ?_) (fun hc => ?_)
    · refine cx.setG 3 rfl (by decide +kernel) (DE.bin (DE.ixL (DE.pe v0 rfl) DE.int (asL_obj h1) rfl) (DE.pe v1 rfl) (oa_mod pm)) ?_
      intro z1 e1
      try dsimp only at e1
      show DSs X _ [_, _, _, _] _ _
      refine DSs.setG (n := kd) (DE.bin (DE.ixL (DE.pe v0 rfl) DE.int (asL_obj h1) rfl) (DE.pe v1 rfl) (oa_div (divW pm bm (by decide)))) (DE.pe v0 rfl) DE.int h1 rfl ?_
      intro z2 e2
      try dsimp only at e2
      show DSs X _ [_, _, _, _] _ _
      refine DSs.ret1 (DE.pe v3 rfl) ?_
      refine fin_mem (hQ z1 ⟨cells, bg, z2, mixed, total⟩ ?_ ?_ ⟨k0, b0, b1, k3, by show mixed ≤ _; omega⟩) rfl ?_
      · rw [e1]; exact Int.emod_nonneg _ (by omega)
      · rw [e1]; exact Int.emod_lt_of_pos _ pm
      · rw [eμ, List.set_set]; rfl
    · refine DSs.nil ?_
      show DSs X _ [_, _, _, _] _ _
      refine DSs.setG (n := kd) (DE.bin (DE.ixL (DE.pe v0 rfl) DE.int (asL_obj h1) rfl) DE.int oa_add) (DE.pe v0 rfl) DE.int h1 rfl ?_
      intro z1 e1
      try dsimp only at e1
      have h2 : (μ1.set kd (deckMO ⟨cells, bg, lf, z1, total⟩))[kd]? = some (deckMO ⟨cells, bg, lf, z1, total⟩) := mset h1
      show DSs X _ [_, _, _, _] _ _
      have bz : B 200 z1 := B.eq e1 bmx
      refine DSs.ret1W ?_
      refine WE.bin ?_
      refine WE.call cd F_law_mix (by decide) g_law_mix ?_
      refine WA.of (DA.cons (DE.ixL (DE.pe v0 rfl) DE.int (asL_obj h2) rfl) (DA.cons (DE.bin (DE.ixL (DE.pe v0 rfl) DE.int (asL_obj h2) rfl) DE.int oa_add) DA.nil)) ?_
      refine ⟨_, _, rfl, (by dsimp only; exact B.rng (a := 2000000000) (by omega) (by omega) (by decide)), fun r => ?_⟩
      refine WE.of (DE.pe v1 rfl) ?_
      refine ⟨_, oa_mod pm, ?_⟩
      refine fin_mem (hQ _ ⟨cells, bg, lf, z1, total⟩ (Int.emod_nonneg _ (by omega)) (Int.emod_lt_of_pos _ pm) ⟨k0, b0, b1, by show 0 ≤ z1; omega, by show z1 ≤ _; omega⟩) rfl ?_
      rw [eμ, List.set_set]; rfl
  have tail0 := tail none begun left μ (set_same hD) hD k1 k2
  refine DSs.ifc (DW.t (DW.and (DT.cmp (DE.ixL (DE.pe v0 rfl) DE.int (asL_obj hD) rfl) DE.int oa_eq) (fun _ => DW.and1 (DT.cmp (DE.ixL (DE.pe v0 rfl) DE.int (asL_obj hD) rfl) (DE.callB cd g_len T.z_len boot_len (DA.cons (DE.ixL (DE.pe v0 rfl) DE.int (asL_obj hD) rfl) DA.nil) (ca_len rfl)) oa_lt)))) (fun hc => ?_) (fun hc => ?_)
  · simp only [Bool.and_eq_true, Bool.or_eq_true, Bool.not_eq_true', Bool.not_eq_false', Bool.and_eq_false_iff, Bool.or_eq_false_iff, decide_eq_true_eq, decide_eq_false_iff_not, Bool.not_true, Bool.not_false] at hc
    rw [List.length_map] at hc
    obtain ⟨z, _, hz⟩ := atI_map (ns := cells) k1 hc.2
    refine cx.setG 2 rfl (by decide +kernel) (DE.ixL (DE.ixL (DE.pe v0 rfl) DE.int (asL_obj hD) rfl) (DE.ixL (DE.pe v0 rfl) DE.int (asL_obj hD) rfl) rfl hz) ?_
    intro z0 e0
    try dsimp only at e0
    show DSs X _ [_, _, _, _] _ _
    refine DSs.setG (n := kd) (DE.bin (DE.ixL (DE.pe v0 rfl) DE.int (asL_obj hD) rfl) DE.int oa_add) (DE.pe v0 rfl) DE.int hD rfl ?_
    intro z1 e1
    try dsimp only at e1
    have h1 : (μ.set kd (deckMO ⟨cells, z1, left, mixed, total⟩))[kd]? = some (deckMO ⟨cells, z1, left, mixed, total⟩) := mset hD
    have c63 : (cells.length : Int) ≤ 63 := by omega
    show DSs X _ [_, _, _, _] _ _
    refine DSs.ifc (DT.cmp (DE.pe v2 rfl) (DE.bin DE.int DE.int (oa_powL (r := 1000000000000000000) ⟨by decide, by decide, by decide⟩ (by decide +kernel))) oa_lt) (fun hc2 => ?_) (fun hc2 => ?_)
    · refine DSs.ret1W ?_
      refine WE.bin ?_
      refine WE.call cd F_law_mix (by decide) g_law_mix ?_
      refine WA.of (DA.cons (DE.pe v2 rfl) (DA.cons (DE.ixL (DE.pe v0 rfl) DE.int (asL_obj h1) rfl) DA.nil)) ?_
      refine ⟨_, _, rfl, (by dsimp only; exact B.rng (a := 100) (by omega) (by omega) (by decide)), fun r => ?_⟩
      refine WE.of (DE.pe v1 rfl) ?_
      refine ⟨_, oa_mod pm, ?_⟩
      exact fin_mem (hQ _ ⟨cells, z1, left, mixed, total⟩ (Int.emod_nonneg _ (by omega)) (Int.emod_lt_of_pos _ pm) ⟨k0, by show 0 ≤ z1; omega, by show z1 ≤ 63; omega, k3, by show mixed ≤ _; omega⟩) rfl rfl
    · refine DSs.nil ?_
      show DSs X _ [_, _, _, _] _ _
      refine DSs.setG (n := kd) (DE.pe v2 rfl) (DE.pe v0 rfl) DE.int h1 rfl ?_
      intro z2 e2
      try dsimp only at e2
      refine DSs.nil ?_
      refine tail (some (.int z0)) z1 z2 _ ?_ (mset h1) (by omega) (by omega)
      rw [List.set_set]; rfl
  · refine DSs.nil ?_
    exact tail0
theorem sc_law_great : FnScope ["deck", "most", "found", "k"] ["deck", "most"] (defScope s_law_great) := ⟨rfl, rfl, rfl, by decide +kernel, rfl, by decide +kernel, by decide +kernel⟩
def A_law_great : ASp := fun args μ Q _ => ∃ (kd : Nat) (d : Deck) (n most : Int), args = [.obj kd, .int most] ∧ μ[kd]? = some (deckMO d) ∧ DkOk d n ∧ n ≤ 900000000 ∧ 0 < most ∧ B 7000 most ∧
  ∀ (r : Int) (d' : Deck), 0 ≤ r → r < most → DkOk d' (n + 4) → Q (.int r) (μ.set kd (deckMO d'))
theorem ok_law_great (T : Txt K mg CC C0) : FnA P w K mg base 3 "_law_great" A_law_great := by
  refine T.d_law_great.ok sc_law_great (by rintro _ _ _ _ ⟨_, _, _, _, rfl, _⟩; rfl) ?_
  rintro X _ μ Q E cx ⟨kd, d, n, most, rfl, hD, hd, hn, pm, bm, hQ⟩
  have cd := cx.toCxD
  have v0 : ∀ {pos : Pos}, PE X (.Name "deck" pos) (tVar 0) := cx.var 0 rfl (by decide +kernel)
  have v1 : ∀ {pos : Pos}, PE X (.Name "most" pos) (tVar 1) := cx.var 1 rfl (by decide +kernel)
  have v2 : ∀ {pos : Pos}, PE X (.Name "found" pos) (tVar 2) := cx.var 2 rfl (by decide +kernel)
  have v3 : ∀ {pos : Pos}, PE X (.Name "k" pos) (tVar 3) := cx.var 3 rfl (by decide +kernel)
  have g_range : (defScope s_law_great).names.lookup ("range" : Str) = some .globalImplicit := by decide +kernel
  have g_law_next : (defScope s_law_great).names.lookup ("_law_next" : Str) = some .globalImplicit := by decide +kernel
  have F_law_next := ok_law_next (P := P) (w := w) (base := base) T
  show DSs X _ [_, _, _, _] _ _
  refine cx.setG 2 rfl (by decide +kernel) DE.int ?_
  intro z0 e0
  show DSs X _ [_, _, _, _] _ _
  refine DSs.cons (DS.for cx.po cx.calm (DI.range1 (cx.gl _ g_range) (by rw [cx.emg]; exact T.z_range) DE.int (by decide) (by decide)) (fun i ρ' μ' => ∃ (z : Int) (kv : Option PV) (d' : Deck), ρ' = [some (.obj kd), some (.int most), some (.int z), kv] ∧ μ'[kd]? = some (deckMO d') ∧ μ' = μ.set kd (deckMO d') ∧ DkOk d' (n + i) ∧ B (40 * i + 20) z) ?_ ?_ ?_ ?_)
  · exact ⟨z0, none, d, rfl, hD, set_same hD, by simpa using hd, by rw [e0]; decide⟩
  · intros; trivial
  · rintro i p ρ' μ' hi ⟨z, kv, d', rfl, h1, eμ, ok1, bz⟩
    have hi4 : i < 4 := by simpa [rngL_length] using (List.getElem?_eq_some_iff.mp hi).1
    rw [rngL_get hi]
    refine ⟨_, DG.name (cx.tgt 3 rfl (by decide +kernel)), ?_⟩
    show DSs X _ [_, _, _, _] _ _
    refine cx.setGW 2 rfl (by decide +kernel) ?_
    refine WE.bin ?_
    refine WE.of (DE.bin (DE.pe v2 rfl) (DE.bin DE.int DE.int (oa_powL (r := 1000000) ⟨by decide, by decide, by decide⟩ (by decide +kernel))) (oa_mul (mulW bz (show B 20 (1000000 : Int) by decide) (by omega)))) ?_
    refine WE.call cd F_law_next (by decide) g_law_next ?_
    refine WA.of (DA.cons (DE.pe v0 rfl) (DA.cons (DE.bin DE.int DE.int (oa_powL (r := 1000000) ⟨by decide, by decide, by decide⟩ (by decide +kernel))) DA.nil)) ?_
    refine ⟨kd, d', _, _, rfl, h1, ok1, by omega, by decide, by decide, ?_⟩
    intro r d1 p_r q_r ok_d
    refine ⟨_, oa_add, ?_⟩
    refine DSs.nil ⟨_, _, d1, rfl, mset h1, ?_, ?_, ?_⟩
    · rw [eμ, List.set_set]
    · exact ok_d.mono (by omega)
    · refine B.le (B.add (B.mul bz (show B 20 (1000000 : Int) by decide)) (show B 20 r from B.rng (a := 1000000) (by omega) (by omega) (by decide))) ?_
      omega
  · rintro ρ' μ' ⟨z, kv, d', rfl, h1, eμ, ok1, bz⟩
    show DSs X _ [_, _, _, _] _ _
    refine DSs.ret1 (DE.bin (DE.pe v2 rfl) (DE.pe v1 rfl) (oa_mod pm)) ?_
    exact fin_mem (hQ _ d' (Int.emod_nonneg _ (by omega)) (Int.emod_lt_of_pos _ pm) (ok1.mono (by simp [rngL_length]))) rfl eμ
theorem sc_law_spiral : FnScope ["deck", "start"] ["deck"] (defScope s_law_spiral) := ⟨rfl, rfl, rfl, by decide +kernel, rfl, by decide +kernel, by decide +kernel⟩
def A_law_spiral : ASp := fun args μ Q _ => ∃ (kd : Nat) (d : Deck) (n : Int), args = [.obj kd] ∧ μ[kd]? = some (deckMO d) ∧ DkOk d n ∧ n ≤ 800000000 ∧
  ∀ (s : Int) (h : Fin 4) (t : Bool) (d' : Deck), -1000000000000000000 ≤ s → s ≤ 1000000000000000000 → DkOk d' (n + 9) → Q (spP s h t) (μ.set kd (deckMO d'))
theorem ok_law_spiral (T : Txt K mg CC C0) : FnA P w K mg base 4 "_law_spiral" A_law_spiral := by
  refine T.d_law_spiral.ok sc_law_spiral (by rintro _ _ _ _ ⟨_, _, _, rfl, _⟩; rfl) ?_
  rintro X _ μ Q E cx ⟨kd, d, n, rfl, hD, hd, hn, hQ⟩
  have cd := cx.toCxD
  have v0 : ∀ {pos : Pos}, PE X (.Name "deck" pos) (tVar 0) := cx.var 0 rfl (by decide +kernel)
  have v1 : ∀ {pos : Pos}, PE X (.Name "start" pos) (tVar 1) := cx.var 1 rfl (by decide +kernel)
  have g_law_next : (defScope s_law_spiral).names.lookup ("_law_next" : Str) = some .globalImplicit := by decide +kernel
  have g_law_great : (defScope s_law_spiral).names.lookup ("_law_great" : Str) = some .globalImplicit := by decide +kernel
  have F_law_next := ok_law_next (P := P) (w := w) (base := base) T
  have F_law_great := ok_law_great (P := P) (w := w) (base := base) T
  show DSs X _ [_, _] _ _
  refine cx.setGW 1 rfl (by decide +kernel) ?_
  refine WE.ix ?_
  refine WE.lst ?_
  refine WA.cons ?_
  refine WE.bin ?_
  refine WE.call cd F_law_next (by decide) g_law_next ?_
  refine WA.of (DA.cons (DE.pe v0 rfl) (DA.cons DE.int DA.nil)) ?_
  refine ⟨kd, _, _, _, rfl, hD, hd, by omega, by decide, by decide, ?_⟩
  intro r1 d1 p_r1 q_r1 ok_d1
  have h_d1 := mset (m' := deckMO d1) hD
  refine WE.of DE.int ?_
  refine ⟨_, oa_sub, ?_⟩
  refine WA.cons ?_
  refine WE.bin ?_
  refine WE.call cd F_law_great (by decide) g_law_great ?_
  refine WA.of (DA.cons (DE.pe v0 rfl) (DA.cons (DE.bin (DE.bin DE.int (DE.bin DE.int DE.int (oa_powL (r := 1000000000000000000) ⟨by decide, by decide, by decide⟩ (by decide +kernel))) (oa_mul (mulW (show B 2 (2 : Int) by decide) (show B 60 (1000000000000000000 : Int) by decide) (by decide)))) DE.int oa_add) DA.nil)) ?_
  refine ⟨kd, _, _, _, rfl, h_d1, ok_d1, by omega, by decide, by decide, ?_⟩
  intro r2 d2 p_r2 q_r2 ok_d2
  have h_d2 := mset (m' := deckMO d2) h_d1
  refine WE.of (DE.bin DE.int DE.int (oa_powL (r := 1000000000000000000) ⟨by decide, by decide, by decide⟩ (by decide +kernel))) ?_
  refine ⟨_, oa_sub, ?_⟩
  refine WA.nil ?_
  refine ⟨le_line (Nat.le_of_ble_eq_true rfl), ?_⟩
  refine WE.call cd F_law_next (by decide) g_law_next ?_
  refine WA.of (DA.cons (DE.pe v0 rfl) (DA.cons DE.int DA.nil)) ?_
  refine ⟨kd, _, _, _, rfl, h_d2, ok_d2, by omega, by decide, by decide, ?_⟩
  intro r3 d3 p_r3 q_r3 ok_d3
  have h_d3 := mset (m' := deckMO d3) h_d2
  obtain ⟨z1, hz1, l1, u1⟩ := at_ints (ns := [r1 - 10, r2 - 1000000000000000000]) (lo := -1000000000000000000) (hi := 1000000000000000000) p_r3 (by simpa using q_r3) (by intro n hn; simp at hn; omega)
  refine ⟨.int z1, ia_lst rfl hz1, ?_⟩
  show DSs X _ [_, _] _ _
  refine cx.setGW 1 rfl (by decide +kernel) ?_
  refine WE.ix ?_
  refine WE.of (DE.lst (DA.cons (DE.pe v1 rfl) (DA.cons (DE.pe v1 rfl) (DA.cons DE.int (DA.cons DE.int (DA.cons (DE.bin DE.int DE.int (oa_powL (r := 1000000000000000000) ⟨by decide, by decide, by decide⟩ (by decide +kernel))) (DA.cons (DE.bin DE.int (DE.bin DE.int DE.int (oa_powL (r := 1000000000000000000) ⟨by decide, by decide, by decide⟩ (by decide +kernel))) oa_sub) DA.nil))))))) ?_
  refine WE.call cd F_law_next (by decide) g_law_next ?_
  refine WA.of (DA.cons (DE.pe v0 rfl) (DA.cons DE.int DA.nil)) ?_
  refine ⟨kd, _, _, _, rfl, h_d3, ok_d3, by omega, by decide, by decide, ?_⟩
  intro r4 d4 p_r4 q_r4 ok_d4
  have h_d4 := mset (m' := deckMO d4) h_d3
  obtain ⟨z2, hz2, l2, u2⟩ := at_ints (ns := [z1, z1, 1, 0, 1000000000000000000, 0 - 1000000000000000000]) (lo := -1000000000000000000) (hi := 1000000000000000000) p_r4 (by simpa using q_r4) (by intro n hn; simp at hn; omega)
  refine ⟨.int z2, ia_lst rfl hz2, ?_⟩
  show DSs X _ [_, _] _ _
  refine DSs.ret1W ?_
  refine WE.tup ?_
  refine WA.cons ?_
  refine WE.of (DE.pe v1 rfl) ?_
  refine WA.cons ?_
  refine WE.ix ?_
  refine WE.of DE.str ?_
  refine WE.call cd F_law_next (by decide) g_law_next ?_
  refine WA.of (DA.cons (DE.pe v0 rfl) (DA.cons DE.int DA.nil)) ?_
  refine ⟨kd, _, _, _, rfl, h_d4, ok_d4, by omega, by decide, by decide, ?_⟩
  intro r5 d5 p_r5 q_r5 ok_d5
  have h_d5 := mset (m' := deckMO d5) h_d4
  obtain ⟨h, hh, _⟩ := hd_at p_r5 q_r5
  refine ⟨.str (hdS h), ia_str hh (le_line (by decide +kernel)), ?_⟩
  refine WA.cons ?_
  refine WE.ix ?_
  refine WE.of DE.str ?_
  refine WE.call cd F_law_next (by decide) g_law_next ?_
  refine WA.of (DA.cons (DE.pe v0 rfl) (DA.cons DE.int DA.nil)) ?_
  refine ⟨kd, _, _, _, rfl, h_d5, ok_d5, by omega, by decide, by decide, ?_⟩
  intro r6 d6 p_r6 q_r6 ok_d6
  have h_d6 := mset (m' := deckMO d6) h_d5
  obtain ⟨t, ht⟩ := tn_at p_r6 q_r6
  refine ⟨.str (tnS t), ia_str ht (le_line (by decide +kernel)), ?_⟩
  refine WA.nil ?_
  refine ⟨le_line (Nat.le_of_ble_eq_true rfl), ?_⟩
  exact fin_mem (hQ z2 h t d6 l2 u2 (ok_d6.mono (by omega))) rfl (by simp only [List.set_set])
theorem sc_noinit : FnScope ["self", "number"] ["self", "number"] (defScope s_noinit) := ⟨rfl, rfl, rfl, by decide +kernel, rfl, by decide +kernel, by decide +kernel⟩
theorem ok_noinit (T : Txt K mg CC C0) : ∀ fI fd, Fun K "__init__" "NoNumber.__init__" s_noinit fI fd → FnOk P w K mg base (L2.CX P w) 1 fI fd ["self", "number"] (spNo (CC 1)) := fun fI fd F =>
  no_init F sc_noinit rfl (by decide +kernel) (by decide +kernel) (by decide +kernel) (by decide +kernel) (fun _ => rfl) (fun _ => rfl) (fun _ => ⟨_, rfl⟩) T.no
theorem spi_shaped {μ : Mem} : SeqAt.shaped (toD (vw μ spiT)) = true := by
  show SeqAt.shaped (.tuple [.str "spiral"]) = true
  decide +kernel
theorem spi_eqv {μ : Mem} : PyData.eqv (toD (vw μ spiT)) (toD (vw μ spiT)) = true := by
  show PyData.eqv (.tuple [.str "spiral"]) (.tuple [.str "spiral"]) = true
  decide +kernel
theorem sc_law_kind : FnScope ["caught", "kinds"] ["caught"] (defScope s_law_kind) := ⟨rfl, rfl, rfl, by decide +kernel, rfl, by decide +kernel, by decide +kernel⟩
def A_law_kind (CC : Fin 4 → Addr) : ASp := fun args μ Q _ => ∃ p q : PV, args = [p] ∧ ((∃ n : Int, p = excP (noX (CC 1) n) ∧ q = nmP n) ∨ (p = excP (txX (CC 2)) ∧ q = spiT)) ∧ Q q μ
theorem ok_law_kind (T : Txt K mg CC C0) : FnA P w K mg base 1 "_law_kind" (A_law_kind CC) := by
  refine T.d_law_kind.ok sc_law_kind (by rintro _ _ _ _ ⟨_, _, rfl, _⟩; rfl) ?_
  rintro X _ μ Q E cx ⟨p, q, rfl, hp, hQ⟩
  have cd := cx.toCxD
  have v0 : ∀ {pos : Pos}, PE X (.Name "caught" pos) (tVar 0) := cx.var 0 rfl (by decide +kernel)
  have v1 : ∀ {pos : Pos}, PE X (.Name "kinds" pos) (tVar 1) := cx.var 1 rfl (by decide +kernel)
  have g_isinstance : (defScope s_law_kind).names.lookup ("isinstance" : Str) = some .globalImplicit := by decide +kernel
  have g_NoAsk : (defScope s_law_kind).names.lookup ("NoAsk" : Str) = some .globalImplicit := by decide +kernel
  have g_NoBox : (defScope s_law_kind).names.lookup ("NoBox" : Str) = some .globalImplicit := by decide +kernel
  have g_NoNumber : (defScope s_law_kind).names.lookup ("NoNumber" : Str) = some .globalImplicit := by decide +kernel
  have g_NoSpiral : (defScope s_law_kind).names.lookup ("NoSpiral" : Str) = some .globalImplicit := by decide +kernel
  have g_LaidError : (defScope s_law_kind).names.lookup ("LaidError" : Str) = some .globalImplicit := by decide +kernel
  have g_ValueError : (defScope s_law_kind).names.lookup ("ValueError" : Str) = some .globalImplicit := by decide +kernel
  have g_bool : (defScope s_law_kind).names.lookup ("bool" : Str) = some .globalImplicit := by decide +kernel
  rcases hp with ⟨n, rfl, rfl⟩ | ⟨rfl, rfl⟩
  · show DSs X _ [_, _] _ _
    refine CxF.setP (q := .lst [.bl false, .bl false, .bl true]) cx 1 rfl (by decide +kernel) (DE.lst (DA.cons (DE.cast (q := .bl false) (DE.isX (C := CC 1) cd (T.x_is 1) g_isinstance T.z_isinstance g_NoAsk T.k_NoAsk (DE.pe v0 rfl) rfl (T.x_k 1 3)) rfl) (DA.cons (DE.cast (q := .bl false) (DE.isX (C := CC 1) cd (T.x_is 1) g_isinstance T.z_isinstance g_NoBox T.k_NoBox (DE.pe v0 rfl) rfl (T.x_k 1 0)) rfl) (DA.cons (DE.cast (q := .bl true) (DE.isX (C := CC 1) cd (T.x_is 1) g_isinstance T.z_isinstance g_NoNumber T.k_NoNumber (DE.pe v0 rfl) rfl (T.x_k 1 1)) rfl) DA.nil)))) ?_
    show DSs X _ [_, _] _ _
    refine CxF.setP (q := .lst ([false, false, true, false].map PV.bl)) cx 1 rfl (by decide +kernel) (DE.cast (DE.bin (DE.pe v1 rfl) (DE.lst (DA.cons (DE.cast (q := .bl false) (DE.isX (C := CC 1) cd (T.x_is 1) g_isinstance T.z_isinstance g_NoSpiral T.k_NoSpiral (DE.pe v0 rfl) rfl (T.x_k 1 2)) rfl) DA.nil)) (oa_cat rfl rfl (le_line (Nat.le_of_ble_eq_true rfl)))) rfl) ?_
    show DSs X _ [_, _] _ _
    refine DSs.ifc (kb := false) (DT.cast (DW.t (DW.or (DT.not (DT.val (DE.isX (C := CC 1) cd (T.x_is 1) g_isinstance T.z_isinstance g_LaidError T.no.mB (DE.pe v0 rfl) rfl (T.x_0 1)))) (fun _ => DW.or (DT.not (DT.val (DE.isXB (C := CC 1) cd (T.x_is 1) g_isinstance T.z_isinstance g_ValueError T.z_ValueError (by decide +kernel) (DE.pe v0 rfl) rfl (T.x_v 1)))) (fun _ => DW.or1 (DT.cmp (DE.bmL PySem.F.slot_list_count PySem.F.type_list_count (DE.pe v1 rfl) rfl (DA.cons DE.bl DA.nil) (ma_countB (bs := [false, false, true, false]) rfl)) DE.int oa_ne))))) rfl) (fun hc => by cases hc) (fun _ => DSs.nil ?_)
    show DSs X _ [_, _] _ _
    refine DSs.ifc (kb := true) (DT.val (DE.ixL (DE.pe v1 rfl) DE.int rfl rfl)) (fun _ => ?_) (fun hc => by cases hc)
    refine DSs.ifc (kb := false) (DT.val (DE.isi (b := false) cd g_isinstance T.z_isinstance g_bool T.z_bool boot_bool (DE.xnum cd T.no (DE.pe v0 rfl)) (S := "int") rfl (by decide +kernel))) (fun hc => by cases hc) (fun _ => DSs.nil ?_)
    show DSs X _ [_, _] _ _
    refine DSs.ret1 (DE.tup (DA.cons DE.str (DA.cons (DE.xnum cd T.no (DE.pe v0 rfl)) DA.nil))) ?_
    exact fin_same hQ rfl
  · show DSs X _ [_, _] _ _
    refine CxF.setP (q := .lst [.bl false, .bl false, .bl false]) cx 1 rfl (by decide +kernel) (DE.lst (DA.cons (DE.cast (q := .bl false) (DE.isX (C := CC 2) cd (T.x_is 2) g_isinstance T.z_isinstance g_NoAsk T.k_NoAsk (DE.pe v0 rfl) rfl (T.x_k 2 3)) rfl) (DA.cons (DE.cast (q := .bl false) (DE.isX (C := CC 2) cd (T.x_is 2) g_isinstance T.z_isinstance g_NoBox T.k_NoBox (DE.pe v0 rfl) rfl (T.x_k 2 0)) rfl) (DA.cons (DE.cast (q := .bl false) (DE.isX (C := CC 2) cd (T.x_is 2) g_isinstance T.z_isinstance g_NoNumber T.k_NoNumber (DE.pe v0 rfl) rfl (T.x_k 2 1)) rfl) DA.nil)))) ?_
    show DSs X _ [_, _] _ _
    refine CxF.setP (q := .lst ([false, false, false, true].map PV.bl)) cx 1 rfl (by decide +kernel) (DE.cast (DE.bin (DE.pe v1 rfl) (DE.lst (DA.cons (DE.cast (q := .bl true) (DE.isX (C := CC 2) cd (T.x_is 2) g_isinstance T.z_isinstance g_NoSpiral T.k_NoSpiral (DE.pe v0 rfl) rfl (T.x_k 2 2)) rfl) DA.nil)) (oa_cat rfl rfl (le_line (Nat.le_of_ble_eq_true rfl)))) rfl) ?_
    show DSs X _ [_, _] _ _
    refine DSs.ifc (kb := false) (DT.cast (DW.t (DW.or (DT.not (DT.val (DE.isX (C := CC 2) cd (T.x_is 2) g_isinstance T.z_isinstance g_LaidError T.no.mB (DE.pe v0 rfl) rfl (T.x_0 2)))) (fun _ => DW.or (DT.not (DT.val (DE.isXB (C := CC 2) cd (T.x_is 2) g_isinstance T.z_isinstance g_ValueError T.z_ValueError (by decide +kernel) (DE.pe v0 rfl) rfl (T.x_v 2)))) (fun _ => DW.or1 (DT.cmp (DE.bmL PySem.F.slot_list_count PySem.F.type_list_count (DE.pe v1 rfl) rfl (DA.cons DE.bl DA.nil) (ma_countB (bs := [false, false, false, true]) rfl)) DE.int oa_ne))))) rfl) (fun hc => by cases hc) (fun _ => DSs.nil ?_)
    show DSs X _ [_, _] _ _
    refine DSs.ifc (kb := false) (DT.val (DE.ixL (DE.pe v1 rfl) DE.int rfl rfl)) (fun hc => by cases hc) (fun _ => DSs.nil ?_)
    show DSs X _ [_, _] _ _
    refine DSs.ret1 (DE.tup (DA.cons (DE.ixL (DE.lst (DA.cons DE.str (DA.cons DE.str (DA.cons DE.str (DA.cons DE.str DA.nil))))) (DE.bmL PySem.F.slot_list_index PySem.F.type_list_index (DE.pe v1 rfl) rfl (DA.cons DE.bl DA.nil) (ma_lindexB (bs := [false, false, false, true]) (j := 3) rfl rfl (fun m hm => by rcases m with _ | _ | _ | m <;> first | decide | exact absurd hm (by omega)))) rfl rfl) DA.nil)) ?_
    exact fin_same hQ rfl
theorem sc_law_sign : FnScope ["deck", "signs"] ["deck"] (defScope s_law_sign) := ⟨rfl, rfl, rfl, by decide +kernel, rfl, by decide +kernel, by decide +kernel⟩
def A_law_sign : ASp := fun args μ Q _ => ∃ (kd : Nat) (d : Deck) (n0 : Int), args = [.obj kd] ∧ μ[kd]? = some (deckMO d) ∧ DkOk d n0 ∧ n0 ≤ 900000000 ∧ ∀ (z : Str) (d' : Deck), TxOk 1 z → DkOk d' (n0 + 3) → Q (.str z) (μ.set kd (deckMO d'))
theorem ok_law_sign (T : Txt K mg CC C0) : FnA P w K mg base 3 "_law_sign" A_law_sign := by
  refine T.d_law_sign.ok sc_law_sign (by rintro _ _ _ _ ⟨_, _, _, rfl, _⟩; rfl) ?_
  rintro X _ μ Q E cx ⟨kd, d, n0, rfl, hD, hd, hn, hQ⟩
  have cd := cx.toCxD
  have v0 : ∀ {pos : Pos}, PE X (.Name "deck" pos) (tVar 0) := cx.var 0 rfl (by decide +kernel)
  have v1 : ∀ {pos : Pos}, PE X (.Name "signs" pos) (tVar 1) := cx.var 1 rfl (by decide +kernel)
  have g_law_next : (defScope s_law_sign).names.lookup ("_law_next" : Str) = some .globalImplicit := by decide +kernel
  have g_len : (defScope s_law_sign).names.lookup ("len" : Str) = some .globalImplicit := by decide +kernel
  have F_law_next := ok_law_next (P := P) (w := w) (base := base) T
  have lS : ((" !\"#$&'()*+,-./0123456789:;<=>?@ABCDEFGHIJKLMNOPQRSTUVWXYZ[\\]^_`abcdefghijklmnopqrstuvwxyz{|}~\n" : Str)).length = 95 := by decide +kernel
  have sgn : ∀ {w : Str} {c : Nat}, PyData.strOk w = true → ∀ {i : Int}, atI w.cps.toList i = some c → TxOk 1 (⟨#[c]⟩ : Str) := fun {w c} hw {i} hc => TxOk.one (strOk_mem hw (by
    unfold atI at hc
    cases q : ixN w.cps.toList.length i with
    | none => rw [q] at hc; cases hc
    | some j => rw [q] at hc; exact List.mem_of_getElem? hc))
  have pick : ∀ {w : Str} {i : Int}, 0 ≤ i → i < ((w.length : Nat) : Int) → ∃ c, atI w.cps.toList i = some c := fun {w i} h0 h1 => by
    obtain ⟨k, rfl⟩ := Int.eq_ofNat_of_zero_le h0
    have hk : k < w.cps.toList.length := by
      have : w.length = w.cps.toList.length := len_tl w
      omega
    exact ⟨w.cps.toList[k], atI_nat (by simp [hk])⟩
  show DSs X _ [_, _] _ _
  refine CxF.setP (q := .str (" !\"#$&'()*+,-./0123456789:;<=>?@ABCDEFGHIJKLMNOPQRSTUVWXYZ[\\]^_`abcdefghijklmnopqrstuvwxyz{|}~\n" : Str)) cx 1 rfl (by decide +kernel) DE.str ?_
  show DSs X _ [_, _] _ _
  refine DSs.ret1W ?_
  refine WE.ix ?_
  refine WE.lst ?_
  refine WA.cons ?_
  refine WE.ix ?_
  refine WE.of (DE.pe v1 rfl) ?_
  refine WE.call cd F_law_next (by decide) g_law_next ?_
  refine WA.of (DA.cons (DE.pe v0 rfl) (DA.cons (DE.cast (q := .int 95) (DE.callB cd g_len T.z_len boot_len (DA.cons (DE.pe v1 rfl) DA.nil) (ca_lenS (le_line (by decide +kernel)))) (congrArg PV.int (by rw [lS]; rfl))) DA.nil)) ?_
  refine ⟨kd, d, _, _, rfl, hD, hd, by omega, by decide, (show B 7000 (95 : Int) by decide +kernel), ?_⟩
  intro r1 d1 p1 q1 ok1
  have h1 := mset (m' := deckMO d1) hD
  obtain ⟨c1, hc1⟩ := pick (w := (" !\"#$&'()*+,-./0123456789:;<=>?@ABCDEFGHIJKLMNOPQRSTUVWXYZ[\\]^_`abcdefghijklmnopqrstuvwxyz{|}~\n" : Str)) p1 (by rw [lS]; exact q1)
  refine ⟨.str ⟨#[c1]⟩, ia_str hc1 (le_line (by decide +kernel)), ?_⟩
  refine WA.cons ?_
  refine WE.ix ?_
  refine WE.of DE.str ?_
  refine WE.call cd F_law_next (by decide) g_law_next ?_
  refine WA.of (DA.cons (DE.pe v0 rfl) (DA.cons (DE.int) DA.nil)) ?_
  refine ⟨kd, d1, _, _, rfl, h1, ok1, by omega, by decide, (show B 7000 (12 : Int) by decide +kernel), ?_⟩
  intro r2 d2 p2 q2 ok2
  have h2 := mset (m' := deckMO d2) h1
  obtain ⟨c2, hc2⟩ := pick (w := ("0129 -enwslr" : Str)) p2 (by rw [show ("0129 -enwslr" : Str).length = 12 by decide +kernel]; exact q2)
  refine ⟨.str ⟨#[c2]⟩, ia_str hc2 (le_line (by decide +kernel)), ?_⟩
  refine WA.nil ?_
  refine ⟨le_line (Nat.le_of_ble_eq_true rfl), ?_⟩
  refine WE.call cd F_law_next (by decide) g_law_next ?_
  refine WA.of (DA.cons (DE.pe v0 rfl) (DA.cons (DE.int) DA.nil)) ?_
  refine ⟨kd, d2, _, _, rfl, h2, ok2, by omega, by decide, (show B 7000 (2 : Int) by decide +kernel), ?_⟩
  intro r3 d3 p3 q3 ok3
  refine ixW rfl p3 (by simpa using q3) ?_
  intro z hz
  have hz2 : ∃ w : Str, z = .str w ∧ TxOk 1 w := by
    simp only [List.mem_cons, List.not_mem_nil, or_false] at hz
    rcases hz with rfl | rfl
    · exact ⟨_, rfl, sgn (by decide +kernel) hc1⟩
    · exact ⟨_, rfl, sgn (by decide +kernel) hc2⟩
  obtain ⟨w, rfl, hw⟩ := hz2
  exact fin_mem (hQ w d3 hw (ok3.mono (by omega))) rfl (by simp only [List.set_set])
def fB : Nat → Nat
  | 0 => 40
  | n + 1 => 2 * fB n + 10
theorem fB_s (n : Nat) : fB (n + 1) = 2 * fB n + 10 := rfl
theorem fB_le {i : Nat} (h : i ≤ 3) : fB i ≤ 390 := by
  have : i = 0 ∨ i = 1 ∨ i = 2 ∨ i = 3 := by omega
  rcases this with rfl | rfl | rfl | rfl <;> decide
theorem fB_190 {i : Nat} (h : i < 3) : fB i ≤ 190 := by
  have : i = 0 ∨ i = 1 ∨ i = 2 := by omega
  rcases this with rfl | rfl | rfl <;> decide
theorem sc_law_spoilt : FnScope ["deck", "text", "k", "at", "way", "sign", "words", "one", "other", "some", "word"] ["deck", "text"] (defScope s_law_spoilt) := ⟨rfl, rfl, rfl, by decide +kernel, rfl, by decide +kernel, by decide +kernel⟩
def A_law_spoilt : ASp := fun args μ Q _ => ∃ (kd : Nat) (d : Deck) (n0 : Int) (z : Str), args = [.obj kd, .str z] ∧ μ[kd]? = some (deckMO d) ∧ DkOk d n0 ∧ n0 ≤ 700000000 ∧ TxOk 40 z ∧ ∀ (z' : Str) (d' : Deck), TxOk 400 z' → DkOk d' (n0 + 50) → Q (.str z') (μ.set kd (deckMO d'))
theorem ok_law_spoilt (T : Txt K mg CC C0) : FnA P w K mg base 4 "_law_spoilt" A_law_spoilt := by
  refine T.d_law_spoilt.ok sc_law_spoilt (by rintro _ _ _ _ ⟨_, _, _, _, rfl, _⟩; rfl) ?_
  rintro X _ μ Q E cx ⟨kd, d, n0, z0, rfl, hD, hd, hn, hz0, hQ⟩
  have cd := cx.toCxD
  have v0 : ∀ {pos : Pos}, PE X (.Name "deck" pos) (tVar 0) := cx.var 0 rfl (by decide +kernel)
  have v1 : ∀ {pos : Pos}, PE X (.Name "text" pos) (tVar 1) := cx.var 1 rfl (by decide +kernel)
  have v2 : ∀ {pos : Pos}, PE X (.Name "k" pos) (tVar 2) := cx.var 2 rfl (by decide +kernel)
  have v3 : ∀ {pos : Pos}, PE X (.Name "at" pos) (tVar 3) := cx.var 3 rfl (by decide +kernel)
  have v4 : ∀ {pos : Pos}, PE X (.Name "way" pos) (tVar 4) := cx.var 4 rfl (by decide +kernel)
  have v5 : ∀ {pos : Pos}, PE X (.Name "sign" pos) (tVar 5) := cx.var 5 rfl (by decide +kernel)
  have v6 : ∀ {pos : Pos}, PE X (.Name "words" pos) (tVar 6) := cx.var 6 rfl (by decide +kernel)
  have v7 : ∀ {pos : Pos}, PE X (.Name "one" pos) (tVar 7) := cx.var 7 rfl (by decide +kernel)
  have v8 : ∀ {pos : Pos}, PE X (.Name "other" pos) (tVar 8) := cx.var 8 rfl (by decide +kernel)
  have v9 : ∀ {pos : Pos}, PE X (.Name "some" pos) (tVar 9) := cx.var 9 rfl (by decide +kernel)
  have v10 : ∀ {pos : Pos}, PE X (.Name "word" pos) (tVar 10) := cx.var 10 rfl (by decide +kernel)
  have g_range : (defScope s_law_spoilt).names.lookup ("range" : Str) = some .globalImplicit := by decide +kernel
  have g_law_next : (defScope s_law_spoilt).names.lookup ("_law_next" : Str) = some .globalImplicit := by decide +kernel
  have g_len : (defScope s_law_spoilt).names.lookup ("len" : Str) = some .globalImplicit := by decide +kernel
  have g_max : (defScope s_law_spoilt).names.lookup ("max" : Str) = some .globalImplicit := by decide +kernel
  have g_law_sign : (defScope s_law_spoilt).names.lookup ("_law_sign" : Str) = some .globalImplicit := by decide +kernel
  have F_law_next := ok_law_next (P := P) (w := w) (base := base) T
  have F_law_sign := ok_law_sign (P := P) (w := w) (base := base) T
  have hk : kd < μ.length := (List.getElem?_eq_some_iff.mp hD).1
  show DSs X _ [_, _, _, _, _, _, _, _, _, _, _] _ _
  refine DSs.cons (DS.forW cx.po cx.calm (DIW.range1 (cx.gl _ g_range) (by rw [cx.emg]; exact T.z_range) ?_))
  refine WE.bin ?_
  refine WE.of DE.int ?_
  refine WE.call cd F_law_next (by decide) g_law_next ?_
  refine WA.of (DA.cons (DE.pe v0 rfl) (DA.cons (DE.int) DA.nil)) ?_
  refine ⟨kd, d, _, _, rfl, hD, hd, by omega, by decide, (show B 7000 (3 : Int) by decide +kernel), ?_⟩
  intro r0 d0 p0 q0 ok0
  refine ⟨_, oa_add, ?_⟩
  refine ⟨_, rfl, by omega, by omega, ?_⟩
  refine ⟨fun i ρ' μ' => ∃ (z : Str) (d' : Deck) (ex : Mem) (a2 a3 a4 a5 a6 a7 a8 a9 a10 : Option PV), ρ' = [some (.obj kd), some (.str z), a2, a3, a4, a5, a6, a7, a8, a9, a10] ∧ μ' = μ.set kd (deckMO d') ++ ex ∧ DkOk d' (n0 + 1 + 15 * ((i : Nat) : Int)) ∧ TxOk (fB i) z, ⟨z0, d0, [], none, none, none, none, none, none, none, none, none, rfl, (List.append_nil _).symm, ok0.mono (by omega), hz0⟩, fun _ _ _ _ _ => trivial, ?_, ?_⟩
  · rintro i p ρ' μ' hi ⟨z, d1, ex, a2, a3, a4, a5, a6, a7, a8, a9, a10, rfl, rfl, ok1, hz⟩
    have hi3 : i < 3 := by
      have := (List.getElem?_eq_some_iff.mp hi).1
      rw [rngL_length] at this
      omega
    have h1 : (μ.set kd (deckMO d1) ++ ex)[kd]? = some (deckMO d1) := get_app (mset hD)
    have hz400 : TxOk 400 z := hz.mono (Nat.le_trans (fB_le (by omega)) (by decide))
    have hf190 : fB i ≤ 190 := fB_190 hi3
    refine ⟨_, DG.name (cx.tgt 2 rfl (by decide +kernel)), ?_⟩
    show DSs X _ [_, _, _, _, _, _, _, _, _, _, _] _ _
    refine cx.setGW 3 rfl (by decide +kernel) ?_
    refine WE.ix ?_
    refine WE.lst ?_
    refine WA.cons ?_
    refine WE.call cd F_law_next (by decide) g_law_next ?_
    refine WA.of (DA.cons (DE.pe v0 rfl) (DA.cons (DE.bin (DE.callB cd g_len T.z_len boot_len (DA.cons (DE.pe v1 rfl) DA.nil) (ca_lenS (le_line (by have := hz400.1; omega)))) DE.int oa_add) DA.nil)) ?_
    refine ⟨kd, d1, _, _, rfl, h1, ok1, by omega, (by omega), (B.le (show B 10 (((z.length : Nat) : Int) + 1) from B.rng (a := 1000) (by omega) (by have := hz400.1; omega) (by decide)) (by decide)), ?_⟩
    intro r2 d2 p2 q2 ok2
    have h2 := mset (m' := deckMO d2) h1
    refine WA.of (DA.cons (DE.callB cd g_max T.z_max boot_max (DA.cons DE.int (DA.cons (DE.bin (DE.callB cd g_len T.z_len boot_len (DA.cons (DE.pe v1 rfl) DA.nil) (ca_lenS (le_line (by have := hz400.1; omega)))) DE.int oa_sub) DA.nil)) (ca_max2 cx.calm)) (DA.cons DE.int DA.nil)) ?_
    refine ⟨le_line (Nat.le_of_ble_eq_true rfl), ?_⟩
    refine WE.call cd F_law_next (by decide) g_law_next ?_
    refine WA.of (DA.cons (DE.pe v0 rfl) (DA.cons (DE.int) DA.nil)) ?_
    refine ⟨kd, d2, _, _, rfl, h2, ok2, by omega, by decide, (show B 7000 (3 : Int) by decide +kernel), ?_⟩
    intro r3 d3 p3 q3 ok3
    have h3 := mset (m' := deckMO d3) h2
    refine ixWA rfl p3 (by simpa using q3) (by exact True.intro) ?_
    intro a
    show DSs X _ [_, _, _, _, _, _, _, _, _, _, _] _ _
    refine cx.setGW 4 rfl (by decide +kernel) ?_
    refine WE.call cd F_law_next (by decide) g_law_next ?_
    refine WA.of (DA.cons (DE.pe v0 rfl) (DA.cons (DE.int) DA.nil)) ?_
    refine ⟨kd, d3, _, _, rfl, h3, ok3, by omega, by decide, (show B 7000 (6 : Int) by decide +kernel), ?_⟩
    intro r4 d4 p4 q4 ok4
    have h4 := mset (m' := deckMO d4) h3
    show DSs X _ [_, _, _, _, _, _, _, _, _, _, _] _ _
    refine cx.setGW 5 rfl (by decide +kernel) ?_
    refine WE.call cd F_law_sign (by decide) g_law_sign ?_
    refine WA.of (DA.cons (DE.pe v0 rfl) DA.nil) ?_
    refine ⟨kd, d4, _, rfl, h4, ok4, by omega, ?_⟩
    intro g d5 hg ok5
    have h5 := mset (m' := deckMO d5) h4
    simp only [List.set_set] at h5 ⊢
    show DSs X _ [_, _, _, _, _, _, _, _, _, _, _] _ _
    refine CxF.setP (q := .obj ((μ.set kd (deckMO d1) ++ ex).set kd (deckMO d5)).length) (μ1 := (μ.set kd (deckMO d1) ++ ex).set kd (deckMO d5) ++ [.lst ((wds z).map PV.str)]) cx 6 rfl (by decide +kernel) (DE.splitO (DE.pe v1 rfl) DE.str rfl (le_line (by have := hz400.1; omega))) ?_
    obtain ⟨MM, hMM⟩ : ∃ MM, MM = (μ.set kd (deckMO d1) ++ ex).set kd (deckMO d5) := ⟨_, rfl⟩
    rw [← hMM] at h5 ⊢
    have hMl : kd < MM.length := (List.getElem?_eq_some_iff.mp h5).1
    have h6 : (MM ++ [MO.lst ((wds z).map PV.str)])[kd]? = some (deckMO d5) := get_app h5
    have kW : (MM ++ [MO.lst ((wds z).map PV.str)])[MM.length]? = some (MO.lst ((wds z).map PV.str)) := app_last
    have wne := wds_ne z
    have wpos : 0 < (wds z).length := List.length_pos_iff.mpr wne
    have wlen : (wds z).length ≤ 401 := by
      have h1 := wt_len (wds z)
      rw [wt_wds] at h1
      have := hz400.1
      omega
    show DSs X _ [_, _, _, _, _, _, _, _, _, _, _] _ _
    refine cx.setGW 7 rfl (by decide +kernel) ?_
    refine WE.call cd F_law_next (by decide) g_law_next ?_
    refine WA.of (DA.cons (DE.pe v0 rfl) (DA.cons (DE.callB cd g_len T.z_len boot_len (DA.cons (DE.pe v6 rfl) DA.nil) (ca_len (asL_obj kW))) DA.nil)) ?_
    refine ⟨kd, d5, _, _, rfl, h6, ok5, by omega, (by rw [List.length_map]; omega), (B.le (show B 10 ((((wds z).map PV.str).length : Nat) : Int) from by rw [List.length_map]; exact B.rng (a := 1000) (by omega) (by omega) (by decide)) (by decide)), ?_⟩
    intro r7 d7 p7 q7 ok7
    have h7 := mset (m' := deckMO d7) h6
    show DSs X _ [_, _, _, _, _, _, _, _, _, _, _] _ _
    have kW7 : ((MM ++ [MO.lst ((wds z).map PV.str)]).set kd (deckMO d7))[MM.length]? = some (MO.lst ((wds z).map PV.str)) := by rw [List.getElem?_set_ne (by omega)]; exact kW
    refine cx.setGW 8 rfl (by decide +kernel) ?_
    refine WE.call cd F_law_next (by decide) g_law_next ?_
    refine WA.of (DA.cons (DE.pe v0 rfl) (DA.cons (DE.callB cd g_len T.z_len boot_len (DA.cons (DE.pe v6 rfl) DA.nil) (ca_len (asL_obj kW7))) DA.nil)) ?_
    refine ⟨kd, d7, _, _, rfl, h7, ok7, by omega, (by rw [List.length_map]; omega), (B.le (show B 10 ((((wds z).map PV.str).length : Nat) : Int) from by rw [List.length_map]; exact B.rng (a := 1000) (by omega) (by omega) (by decide)) (by decide)), ?_⟩
    intro r8 d8 p8 q8 ok8
    have h8 := mset (m' := deckMO d8) h7
    simp only [List.set_set] at h8 ⊢
    show DSs X _ [_, _, _, _, _, _, _, _, _, _, _] _ _
    refine CxF.setP (q := .lst ((["0", "-0", "00", "-01", "+1", "--1", "1.0", "1_0", "e", "n", "w", "s", "l", "r", "", "el", "ew", "lr"] : List Str).map PV.str)) cx 9 rfl (by decide +kernel) (DE.lst (DA.cons (DE.str) (DA.cons (DE.str) (DA.cons (DE.str) (DA.cons (DE.str) (DA.cons (DE.str) (DA.cons (DE.str) (DA.cons (DE.str) (DA.cons (DE.str) (DA.cons (DE.str) (DA.cons (DE.str) (DA.cons (DE.str) (DA.cons (DE.str) (DA.cons (DE.str) (DA.cons (DE.str) (DA.cons (DE.str) (DA.cons (DE.str) (DA.cons (DE.str) (DA.cons (DE.str) (DA.nil)))))))))))))))))))) ?_
    show DSs X _ [_, _, _, _, _, _, _, _, _, _, _] _ _
    refine CxF.setP (q := .lst ((["0", "-0", "00", "-01", "+1", "--1", "1.0", "1_0", "e", "n", "w", "s", "l", "r", "", "el", "ew", "lr", "E", "L", "enws", "en", "north", "1e", "-", "-5", "0x1"] : List Str).map PV.str)) cx 9 rfl (by decide +kernel) (DE.cast (DE.bin (DE.pe v9 rfl) (DE.lst (DA.cons (DE.str) (DA.cons (DE.str) (DA.cons (DE.str) (DA.cons (DE.str) (DA.cons (DE.str) (DA.cons (DE.str) (DA.cons (DE.str) (DA.cons (DE.str) (DA.cons (DE.str) (DA.nil))))))))))) (oa_cat rfl rfl (le_line (Nat.le_of_ble_eq_true rfl)))) rfl) ?_
    show DSs X _ [_, _, _, _, _, _, _, _, _, _, _] _ _
    refine cx.setGW 10 rfl (by decide +kernel) ?_
    refine WE.ix ?_
    refine WE.of (DE.pe v9 rfl) ?_
    refine WE.call cd F_law_next (by decide) g_law_next ?_
    refine WA.of (DA.cons (DE.pe v0 rfl) (DA.cons (DE.cast (q := .int 27) (DE.callB cd g_len T.z_len boot_len (DA.cons (DE.pe v9 rfl) DA.nil) (ca_len rfl)) rfl) DA.nil)) ?_
    refine ⟨kd, d8, _, _, rfl, h8, ok8, by omega, by decide, (show B 7000 (27 : Int) by decide +kernel), ?_⟩
    intro r9 d9 p9 q9 ok9
    have h9 := mset (m' := deckMO d9) h8
    simp only [List.set_set] at h9 ⊢
    refine ixW (xs := (["0", "-0", "00", "-01", "+1", "--1", "1.0", "1_0", "e", "n", "w", "s", "l", "r", "", "el", "ew", "lr", "E", "L", "enws", "en", "north", "1e", "-", "-5", "0x1"] : List Str).map PV.str) rfl p9 (by simpa using q9) ?_
    intro w0 hw0
    obtain ⟨w, hw, rfl⟩ := List.mem_map.mp hw0
    have okw : TxOk 5 w := by
      have all : ∀ w ∈ (["0", "-0", "00", "-01", "+1", "--1", "1.0", "1_0", "e", "n", "w", "s", "l", "r", "", "el", "ew", "lr", "E", "L", "enws", "en", "north", "1e", "-", "-5", "0x1"] : List Str), (Nat.ble w.length 5 && PyData.strOk w) = true := by decide +kernel
      exact TxOk.lit (all w hw)
    obtain ⟨M9, hM9⟩ : ∃ M9, M9 = MM.set kd (deckMO d9) := ⟨_, rfl⟩
    have eM9 : (MM ++ [MO.lst ((wds z).map PV.str)]).set kd (deckMO d9) = M9 ++ [MO.lst ((wds z).map PV.str)] := by rw [hM9, set_app h5]
    have lM9 : M9.length = MM.length := by rw [hM9, List.length_set]
    rw [eM9] at h9 ⊢
    have k9 : (M9 ++ [MO.lst ((wds z).map PV.str)])[MM.length]? = some (MO.lst ((wds z).map PV.str)) := by rw [← lM9]; exact app_last
    have eF : ∀ xs : List PV, (M9 ++ [MO.lst ((wds z).map PV.str)]).set MM.length (.lst xs) = μ.set kd (deckMO d9) ++ (ex ++ [MO.lst xs]) := fun xs => by
      rw [← lM9, app_setl, hM9, hMM, List.set_set, set_app (mset hD), List.set_set, List.append_assoc]
    have eF0 : M9 ++ [MO.lst ((wds z).map PV.str)] = μ.set kd (deckMO d9) ++ (ex ++ [MO.lst ((wds z).map PV.str)]) := by
      rw [hM9, hMM, List.set_set, set_app (mset hD), List.set_set, List.append_assoc]
    have kE : ∀ us : List Str, (μ.set kd (deckMO d9) ++ (ex ++ [MO.lst (us.map PV.str)]))[MM.length]? = some (.lst (us.map PV.str)) := fun us => by
      rw [← eF, ← lM9]
      exact mset app_last
    have hok := wds_ok hz.2
    have hwt := wt_wds z
    have hzl := hz.1
    have okD : DkOk d9 (n0 + 1 + 15 * ((i + 1 : Nat) : Int)) := ok9.mono (by omega)
    have done : ∀ (z' : Str) (ex' : Mem) (a2 a3 a4 a5 a6 a7 a8 a9 a10 : Option PV), TxOk (fB (i + 1)) z' → ∃ (z : Str) (d' : Deck) (ex : Mem) (b2 b3 b4 b5 b6 b7 b8 b9 b10 : Option PV), [some (.obj kd), some (.str z'), a2, a3, a4, a5, a6, a7, a8, a9, a10] = [some (.obj kd), some (.str z), b2, b3, b4, b5, b6, b7, b8, b9, b10] ∧ μ.set kd (deckMO d9) ++ ex' = μ.set kd (deckMO d') ++ ex ∧ DkOk d' (n0 + 1 + 15 * ((i + 1 : Nat) : Int)) ∧ TxOk (fB (i + 1)) z :=
      fun z' ex' a2 a3 a4 a5 a6 a7 a8 a9 a10 hz' => ⟨z', d9, ex', a2, a3, a4, a5, a6, a7, a8, a9, a10, rfl, rfl, okD, hz'⟩
    have i0 : ∃ jj : Nat, r7 = ((jj : Nat) : Int) ∧ jj < (wds z).length := ⟨r7.toNat, by omega, by
      rw [List.length_map] at q7
      omega⟩
    obtain ⟨j1, rfl, hj1⟩ := i0
    have i1 : ∃ jj : Nat, r8 = ((jj : Nat) : Int) ∧ jj < (wds z).length := ⟨r8.toNat, by omega, by
      rw [List.length_map] at q8
      omega⟩
    obtain ⟨j2, rfl, hj2⟩ := i1
    have g1 : (wds z)[j1]? = some (wds z)[j1] := by simp [hj1]
    have g2 : (wds z)[j2]? = some (wds z)[j2] := by simp [hj2]
    have ix : ∀ {j : Nat}, j < (wds z).length → ixN ((wds z).map PV.str).length ((j : Nat) : Int) = some j := fun {j} hj => by
      rw [List.length_map]
      unfold ixN
      rw [if_pos (by omega), if_pos (by omega)]
      simp
    have atw : ∀ {j : Nat} (hj : j < (wds z).length), atI ((wds z).map PV.str) ((j : Nat) : Int) = some (.str (wds z)[j]) := fun {j} hj => atI_nat (by simp [hj])
    have bW : wtS (wds z) ≤ fB i + 1 := by omega
    have nonneg4 : 0 ≤ r4 := p4
    show DSs X _ [_, _, _, _, _, _, _, _, _, _, _] _ _
    by_cases c3 : r4 < 3
    · refine DSs.ifc (kb := true) (DT.cast (DT.cmp (DE.pe v4 rfl) DE.int oa_lt) (decide_eq_true c3)) (fun _ => ?_) (fun hc => by cases hc)
      have hA : TxOk (fB i) (cutS z none (some a)) := hz.cut
      have hB : TxOk (fB i) (cutS z (some a) none) := hz.cut
      have hC : TxOk (fB i) (cutS z (some (a + 1)) none) := hz.cut
      have hAg := hA.app hg
      refine cx.setGW 1 rfl (by decide +kernel) ?_
      refine WE.ix ?_
      refine WE.of (DE.lst (DA.cons (DE.bin (DE.bin (DE.slice (DE.pe v1 rfl) DO.none (DO.some (DE.pe v3 rfl)) (sa_str (le_line (by have := hz.1; omega)))) (DE.pe v5 rfl) (oa_addS (le_line (by have := hA.1; have := hg.1; omega)))) (DE.slice (DE.pe v1 rfl) (DO.some (DE.pe v3 rfl)) DO.none (sa_str (le_line (by have := hz.1; omega)))) (oa_addS (le_line (by have := hAg.1; have := hB.1; omega)))) (DA.cons (DE.bin (DE.bin (DE.slice (DE.pe v1 rfl) DO.none (DO.some (DE.pe v3 rfl)) (sa_str (le_line (by have := hz.1; omega)))) (DE.pe v5 rfl) (oa_addS (le_line (by have := hA.1; have := hg.1; omega)))) (DE.slice (DE.pe v1 rfl) (DO.some (DE.bin (DE.pe v3 rfl) DE.int oa_add)) DO.none (sa_str (le_line (by have := hz.1; omega)))) (oa_addS (le_line (by have := hAg.1; have := hC.1; omega)))) (DA.cons (DE.bin (DE.slice (DE.pe v1 rfl) DO.none (DO.some (DE.pe v3 rfl)) (sa_str (le_line (by have := hz.1; omega)))) (DE.slice (DE.pe v1 rfl) (DO.some (DE.bin (DE.pe v3 rfl) DE.int oa_add)) DO.none (sa_str (le_line (by have := hz.1; omega)))) (oa_addS (le_line (by have := hA.1; have := hC.1; omega)))) DA.nil)))) ?_
      refine WE.of (DE.pe v4 rfl) ?_
      refine ixW rfl p4 c3 ?_
      intro t0 ht0
      have ht1 : ∃ t1 : Str, t0 = .str t1 ∧ TxOk (fB (i + 1)) t1 := by
        simp only [List.mem_cons, List.not_mem_nil, or_false] at ht0
        rcases ht0 with rfl | rfl | rfl
        · exact ⟨_, rfl, (hAg.app hB).mono (by rw [fB_s]; omega)⟩
        · exact ⟨_, rfl, (hAg.app hC).mono (by rw [fB_s]; omega)⟩
        · exact ⟨_, rfl, (hA.app hC).mono (by rw [fB_s]; omega)⟩
      obtain ⟨t1, rfl, hT⟩ := ht1
      refine DSs.nil ?_
      show DSs X _ [_, _, _, _, _, _, _, _, _, _, _] _ _
      refine DSs.ifc (kb := false) (DT.cast (DT.cmp (DE.pe v4 rfl) DE.int oa_gt) (decide_eq_false (by omega))) (fun hc => by cases hc) (fun _ => DSs.nil ?_)
      refine DSs.nil ?_
      rw [eF0]
      exact done _ _ _ _ _ _ _ _ _ _ _ hT
    · refine DSs.ifc (kb := false) (DT.cast (DT.cmp (DE.pe v4 rfl) DE.int oa_lt) (decide_eq_false c3)) (fun hc => by cases hc) (fun _ => ?_)
      by_cases c4 : r4 = 3
      · refine DSs.ifc (kb := true) (DT.cast (DT.cmp (DE.pe v4 rfl) DE.int oa_eq) (decide_eq_true c4)) (fun _ => ?_) (fun hc => by cases hc)
        refine DSs.cons (DS.setIW (WE.of (DE.pe v10 rfl) ⟨_, _, _, _, DE.pe v6 rfl, DE.pe v7 rfl, k9, ix hj1, ?_⟩))
        rw [show ((wds z).map PV.str).set j1 (.str w) = ((wds z).set j1 w).map PV.str by rw [List.map_set], eF]
        have hs := wt_set w g1
        have b1 : wtS ((wds z).set j1 w) ≤ 2 * fB i + 10 := by have := okw.1; omega
        refine DSs.nil (DSs.nil ?_)
        show DSs X _ [_, _, _, _, _, _, _, _, _, _, _] _ _
        refine DSs.ifc (kb := true) (DT.cast (DT.cmp (DE.pe v4 rfl) DE.int oa_gt) (decide_eq_true (by omega))) (fun _ => ?_) (fun hc => by cases hc)
        refine CxF.setP (q := .str (wrd ((wds z).set j1 w))) cx 1 rfl (by decide +kernel) (DE.bmS PySem.F.slot_str_join PySem.F.type_str_join DE.str (DA.cons (DE.pe v6 rfl) DA.nil) (ma_join (ys := ((wds z).set j1 w)) (asL_obj (kE ((wds z).set j1 w))) (wt_line (by omega)))) ?_
        refine DSs.nil (DSs.nil ?_)
        exact done _ _ _ _ _ _ _ _ _ _ _ (TxOk.wrd (by rw [fB_s]; exact b1) (set_oks hok okw.2))
      · refine DSs.ifc (kb := false) (DT.cast (DT.cmp (DE.pe v4 rfl) DE.int oa_eq) (decide_eq_false c4)) (fun hc => by cases hc) (fun _ => ?_)
        by_cases c5 : r4 = 4
        · refine DSs.ifc (kb := true) (DT.cast (DT.cmp (DE.pe v4 rfl) DE.int oa_eq) (decide_eq_true c5)) (fun _ => ?_) (fun hc => by cases hc)
          refine DSs.cons (DS.expr (DE.insert (p := .str w) (i := ((j1 : Nat) : Int)) (DE.pe v6 rfl) (DA.cons (DE.pe v7 rfl) (DA.cons (DE.pe v10 rfl) DA.nil)) (asL_obj k9) k9 (by rw [List.length_map, sizeLine_eq]; omega) (by omega) (by omega)) ?_)
          rw [Int.toNat_natCast, show ((wds z).map PV.str).take j1 ++ [PV.str w] ++ ((wds z).map PV.str).drop j1 = ((wds z).take j1 ++ [w] ++ (wds z).drop j1).map PV.str by simp, eF]
          have b1 : wtS ((wds z).take j1 ++ [w] ++ (wds z).drop j1) ≤ 2 * fB i + 10 := by rw [wt_ins]; have := okw.1; omega
          refine DSs.nil (DSs.nil (DSs.nil ?_))
          show DSs X _ [_, _, _, _, _, _, _, _, _, _, _] _ _
          refine DSs.ifc (kb := true) (DT.cast (DT.cmp (DE.pe v4 rfl) DE.int oa_gt) (decide_eq_true (by omega))) (fun _ => ?_) (fun hc => by cases hc)
          refine CxF.setP (q := .str (wrd ((wds z).take j1 ++ [w] ++ (wds z).drop j1))) cx 1 rfl (by decide +kernel) (DE.bmS PySem.F.slot_str_join PySem.F.type_str_join DE.str (DA.cons (DE.pe v6 rfl) DA.nil) (ma_join (ys := ((wds z).take j1 ++ [w] ++ (wds z).drop j1)) (asL_obj (kE ((wds z).take j1 ++ [w] ++ (wds z).drop j1))) (wt_line (by omega)))) ?_
          refine DSs.nil (DSs.nil ?_)
          exact done _ _ _ _ _ _ _ _ _ _ _ (TxOk.wrd (by rw [fB_s]; exact b1) (ins_oks hok okw.2))
        · refine DSs.ifc (kb := false) (DT.cast (DT.cmp (DE.pe v4 rfl) DE.int oa_eq) (decide_eq_false c5)) (fun hc => by cases hc) (fun _ => ?_)
          have k10 : ((M9 ++ [MO.lst ((wds z).map PV.str)]).set MM.length (.lst (((wds z).map PV.str).set j1 (.str (wds z)[j2]))))[MM.length]? = some (.lst (((wds z).map PV.str).set j1 (.str (wds z)[j2]))) := mset k9
          refine DSs.cons (DS.asgM (WE.of (DE.tup (DA.cons (DE.ixL (DE.pe v6 rfl) (DE.pe v8 rfl) (asL_obj k9) (atw hj2)) (DA.cons (DE.ixL (DE.pe v6 rfl) (DE.pe v7 rfl) (asL_obj k9) (atw hj1)) DA.nil))) ⟨_, _, DGm.tup cx.calm (DGms.cons (DGm.sub (DE.pe v6 rfl) (DE.pe v7 rfl) k9 (ix hj1)) (DGms.cons (DGm.sub (DE.pe v6 rfl) (DE.pe v8 rfl) k10 (by rw [List.length_set]; exact ix hj2)) DGms.nil)), ?_⟩) (hw := by unfold swappedStores Env.blockKind Env.kindOf; rw [cx.esc]; rfl))
          rw [List.set_set, show (((wds z).map PV.str).set j1 (.str (wds z)[j2])).set j2 (.str (wds z)[j1]) = (((wds z).set j1 (wds z)[j2]).set j2 (wds z)[j1]).map PV.str by rw [List.map_set, List.map_set], eF]
          have b1 : wtS (((wds z).set j1 (wds z)[j2]).set j2 (wds z)[j1]) ≤ 2 * fB i + 10 := by rw [wt_swap g1 g2]; omega
          refine DSs.nil (DSs.nil (DSs.nil ?_))
          show DSs X _ [_, _, _, _, _, _, _, _, _, _, _] _ _
          refine DSs.ifc (kb := true) (DT.cast (DT.cmp (DE.pe v4 rfl) DE.int oa_gt) (decide_eq_true (by omega))) (fun _ => ?_) (fun hc => by cases hc)
          refine CxF.setP (q := .str (wrd (((wds z).set j1 (wds z)[j2]).set j2 (wds z)[j1]))) cx 1 rfl (by decide +kernel) (DE.bmS PySem.F.slot_str_join PySem.F.type_str_join DE.str (DA.cons (DE.pe v6 rfl) DA.nil) (ma_join (ys := (((wds z).set j1 (wds z)[j2]).set j2 (wds z)[j1])) (asL_obj (kE (((wds z).set j1 (wds z)[j2]).set j2 (wds z)[j1]))) (wt_line (by omega)))) ?_
          refine DSs.nil (DSs.nil ?_)
          exact done _ _ _ _ _ _ _ _ _ _ _ (TxOk.wrd (by rw [fB_s]; exact b1) (set_oks (set_oks hok (hok _ (List.getElem_mem hj2))) (hok _ (List.getElem_mem hj1))))
  · rintro ρ' μ' ⟨z, d1, ex, a2, a3, a4, a5, a6, a7, a8, a9, a10, rfl, rfl, ok1, hz⟩
    rw [rngL_length] at ok1 hz
    show DSs X _ [_, _, _, _, _, _, _, _, _, _, _] _ _
    refine DSs.ret1 (DE.pe v1 rfl) ?_
    exact fin_dropD (hQ z d1 (hz.mono (Nat.le_trans (fB_le (by omega)) (by decide))) (ok1.mono (by omega))) rfl rfl
theorem sc_law_due : FnScope ["text", "words", "below", "number", "figure", "bare"] ["text"] (defScope s_law_due) := ⟨rfl, rfl, rfl, by decide +kernel, rfl, by decide +kernel, by decide +kernel⟩
def A_law_due : ASp := fun args μ Q _ => ∃ z : Str, args = [.str z] ∧ TxOk 600 z ∧ (∀ s h t, DueOk z s h t → Q (spP s h t) μ) ∧ ((∀ s h t, ¬ DueOk z s h t) → Q .non μ)
theorem ok_law_due (T : Txt K mg CC C0) : FnA P w K mg base 1 "_law_due" A_law_due := by
  refine T.d_law_due.ok sc_law_due (by rintro _ _ _ _ ⟨_, rfl, _⟩; rfl) ?_
  rintro X _ μ Q E cx ⟨z, rfl, hz, hQ, hN⟩
  have cd := cx.toCxD
  have v0 : ∀ {pos : Pos}, PE X (.Name "text" pos) (tVar 0) := cx.var 0 rfl (by decide +kernel)
  have v1 : ∀ {pos : Pos}, PE X (.Name "words" pos) (tVar 1) := cx.var 1 rfl (by decide +kernel)
  have v2 : ∀ {pos : Pos}, PE X (.Name "below" pos) (tVar 2) := cx.var 2 rfl (by decide +kernel)
  have v3 : ∀ {pos : Pos}, PE X (.Name "number" pos) (tVar 3) := cx.var 3 rfl (by decide +kernel)
  have v4 : ∀ {pos : Pos}, PE X (.Name "figure" pos) (tVar 4) := cx.var 4 rfl (by decide +kernel)
  have v5 : ∀ {pos : Pos}, PE X (.Name "bare" pos) (tVar 5) := cx.var 5 rfl (by decide +kernel)
  have g_len : (defScope s_law_due).names.lookup ("len" : Str) = some .globalImplicit := by decide +kernel
  have g_int : (defScope s_law_due).names.lookup ("int" : Str) = some .globalImplicit := by decide +kernel
  by_cases h3 : (wds z).length = 3
  · obtain ⟨a, b, c, e⟩ : ∃ a b c, wds z = [a, b, c] := by
      rcases hw : wds z with _ | ⟨a, _ | ⟨b, _ | ⟨c, _ | ⟨d, r⟩⟩⟩⟩
      · rw [hw] at h3; cases h3
      · rw [hw] at h3; cases h3
      · rw [hw] at h3; cases h3
      · exact ⟨a, b, c, rfl⟩
      · rw [hw] at h3; simp at h3
    have ha : TxOk 600 a := hz.word (by rw [e]; simp)
    show DSs X _ [_, _, _, _, _, _] _ _
    refine CxF.setP (q := .lst (([a, b, c] : List Str).map PV.str)) cx 1 rfl (by decide +kernel) (DE.cast (DE.bmS PySem.F.slot_str_split PySem.F.type_str_split (DE.pe v0 rfl) (DA.cons DE.str DA.nil) (ma_split rfl (le_line (by have := hz.1; omega)))) (congrArg PV.lst (congrArg (List.map PV.str) e))) ?_
    show DSs X _ [_, _, _, _, _, _] _ _
    by_cases hb : b ∈ hdL
    · obtain ⟨g, rfl⟩ := hd_mem hb
      by_cases hc : c ∈ tnL
      · obtain ⟨t, rfl⟩ := tn_mem hc
        refine DSs.ifc (kb := false) (DW.t (DW.orF (DT.cast (DT.cmp (DE.callB cd g_len T.z_len boot_len (DA.cons (DE.pe v1 rfl) DA.nil) (ca_len rfl)) DE.int oa_ne) rfl) (DW.orF (DT.cast (DT.cmp (DE.ixL (DE.pe v1 rfl) DE.int rfl rfl) (DE.tup (DA.cons DE.str (DA.cons DE.str (DA.cons DE.str (DA.cons DE.str DA.nil))))) (oa_notInT (xs := hdL.map PV.str) rfl rfl)) (by rw [inV_str, decide_eq_true (hd_memS g)]; rfl)) (DW.or1 (DT.cast (DT.cmp (DE.ixL (DE.pe v1 rfl) DE.int rfl rfl) (DE.tup (DA.cons DE.str (DA.cons DE.str DA.nil))) (oa_notInT (xs := tnL.map PV.str) rfl rfl)) (by rw [inV_str, decide_eq_true (tn_memS t)]; rfl)))))) (fun hc => by cases hc) (fun _ => DSs.nil ?_)
        show DSs X _ [_, _, _, _, _, _] _ _
        refine CxF.setP (q := .int (if (decide (cutS a none (some 1) = "-")) = true then 1 else 0)) cx 2 rfl (by decide +kernel) (DE.callTy cd g_int T.z_int boot_int (DA.cons (DE.cmp (DE.slice (DE.ixL (DE.pe v1 rfl) DE.int rfl rfl) DO.none (DO.some DE.int) (sa_str (le_line (by have := ha.1; omega)))) DE.str oa_eqS) DA.nil) ca_intB) ?_
        show DSs X _ [_, _, _, _, _, _] _ _
        refine CxF.setP (q := .int 0) cx 3 rfl (by decide +kernel) DE.int ?_
        have tb : tl (cutS a (some (if (decide (cutS a none (some 1) = "-")) = true then 1 else 0)) none) = bareL (tl a) := tl_bare
        have hbare : TxOk 600 (cutS a (some (if (decide (cutS a none (some 1) = "-")) = true then 1 else 0)) none) := ha.cut
        generalize hk01 : (some (if (decide (cutS a none (some 1) = "-")) = true then 1 else 0) : Option Int) = kk at tb hbare
        generalize hbb : cutS a kk none = bare at tb hbare
        show DSs X _ [_, _, _, _, _, _] _ _
        refine DSs.cons (DS.for cx.po cx.calm (DI.str (DE.cast (q := .str bare) (DE.slice (DE.ixL (DE.pe v1 rfl) DE.int rfl rfl) (DO.some (DE.pe v2 rfl)) DO.none (sa_str (le_line (by have := ha.1; omega)))) (congrArg PV.str (by rw [hk01, hbb])))) (fun i ρ' μ' => ∃ (n : Int) (a4 : Option PV), ρ' = [some (.str z), some (.lst [.str a, .str (hdS g), .str (tnS t)]), some (.int (if (decide (cutS a none (some 1) = "-")) = true then 1 else 0)), some (.int n), a4, none] ∧ μ' = μ ∧ n = dgV ((tl bare).take i) ∧ ∀ c ∈ (tl bare).take i, c ∈ figs) ⟨0, none, rfl, rfl, rfl, fun c hc => by simp at hc⟩ (fun _ _ _ _ _ => trivial) ?_ ?_)
        · rintro i p ρ' μ' hi ⟨n, a4, rfl, rfl, hn, hf⟩
          unfold signs at hi
          rw [List.getElem?_map] at hi
          obtain ⟨c, hc, rfl⟩ := Option.map_eq_some_iff.mp hi
          refine ⟨_, DG.name (cx.tgt 4 rfl (by decide +kernel)), ?_⟩
          show DSs X _ [_, _, _, _, _, _] _ _
          by_cases hcf : c ∈ figs
          · refine DSs.ifc (kb := false) (DT.cast (DT.cmp (DE.pe v4 rfl) DE.str oa_notInC) (by rw [decide_eq_true (show c ∈ tl "0123456789" from hcf)]; rfl)) (fun hc => by cases hc) (fun _ => DSs.nil ?_)
            show DSs X _ [_, _, _, _, _, _] _ _
            have bn : B 2400 n := by
              rw [hn]
              refine B.le (dgV_b hf) ?_
              have h1 : ((tl bare).take i).length ≤ (tl bare).length := by rw [List.length_take]; omega
              have h2 : (tl bare).length ≤ 600 := by rw [← len_tl]; exact hbare.1
              omega
            refine CxF.setP (q := .int (n * 10 + ((c : Nat) - 48 : Int))) cx 3 rfl (by decide +kernel) (DE.bin (DE.bin (DE.pe v3 rfl) DE.int (oa_mul (mulW bn (show B 4 (10 : Int) by decide) (by decide)))) (DE.cast (DE.bmS PySem.F.slot_str_find PySem.F.type_str_find DE.str (DA.cons (DE.pe v4 rfl) DA.nil) ma_find) (congrArg PV.int (fig_find hcf))) oa_add) ?_
            have ht : (tl bare).take (i + 1) = (tl bare).take i ++ [c] := by rw [List.take_succ, hc]; rfl
            refine DSs.nil ⟨_, _, rfl, rfl, ?_, ?_⟩
            · rw [ht, dgV_snoc _ hcf, ← hn]
            · rw [ht]
              intro x hx
              rcases List.mem_append.mp hx with hx | hx
              · exact hf x hx
              · rw [List.mem_singleton.mp hx]; exact hcf
          · refine DSs.ifc (kb := true) (DT.cast (DT.cmp (DE.pe v4 rfl) DE.str oa_notInC) (by rw [decide_eq_false (show ¬ c ∈ tl "0123456789" from hcf)]; rfl)) (fun _ => DSs.ret1 DE.non (fin_same (hN fun s h t hd => ?_) rfl)) (fun hc => by cases hc)
            obtain ⟨a', e', hn', _⟩ := hd
            rw [e] at e'
            obtain rfl : a = a' := by simpa using (List.cons.inj e').1
            rw [num_bad (c := c) (by rw [← tb]; exact List.mem_of_getElem? hc) hcf] at hn'
            cases hn'
        · rintro ρ' μ' ⟨n, a4, rfl, rfl, hn, hf⟩
          rw [show (signs (tl bare)).length = (tl bare).length by unfold signs; rw [List.length_map], List.take_length] at hn hf
          have ht := num_test (z := a) tb hf
          show DSs X _ [_, _, _, _, _, _] _ _
          refine CxF.setP (q := .str bare) cx 5 rfl (by decide +kernel) (DE.cast (DE.slice (DE.ixL (DE.pe v1 rfl) DE.int rfl rfl) (DO.some (DE.pe v2 rfl)) DO.none (sa_str (le_line (by have := ha.1; omega)))) (congrArg PV.str (by rw [hk01, hbb]))) ?_
          show DSs X _ [_, _, _, _, _, _] _ _
          by_cases hnum : isNumL (tl a) = true
          · rw [hnum] at ht
            refine DSs.ifc (kb := false) (DT.cast (DW.t (DW.or (DT.cmp (DE.pe v5 rfl) DE.str oa_eqS) (fun _ => DW.or1 (DW.t (DW.and (DT.cmp (DE.slice (DE.pe v5 rfl) DO.none (DO.some DE.int) (sa_str (le_line (by have := hbare.1; omega)))) DE.str oa_eqS) (fun _ => DW.and1 (DT.cmp (DE.ixL (DE.pe v1 rfl) DE.int rfl rfl) DE.str oa_neS))))))) ht) (fun hc => by cases hc) (fun _ => DSs.nil ?_)
            show DSs X _ [_, _, _, _, _, _] _ _
            have bn : B 2400 n := by
              rw [hn]
              refine B.le (dgV_b hf) ?_
              have h2 : (tl bare).length ≤ 600 := by rw [← len_tl]; exact hbare.1
              omega
            refine DSs.ret1 (DE.tup (DA.cons (DE.bin (DE.pe v3 rfl) (DE.ixL (DE.lst (DA.cons DE.int (DA.cons (DE.neg DE.int) DA.nil))) (DE.pe v2 rfl) rfl at_b2i) (oa_mul (mulW bn (B.ite (show B 1 (-1 : Int) by decide) (show B 1 (1 : Int) by decide)) (by decide)))) (DA.cons (DE.ixL (DE.pe v1 rfl) DE.int rfl rfl) (DA.cons (DE.ixL (DE.pe v1 rfl) DE.int rfl rfl) DA.nil)))) ?_
            refine fin_same (hQ (valW (tl a)) g t ⟨a, e, hnum, rfl⟩) ?_
            rw [← due_val (z := a) (n := n) (by rw [← tb, hn])]
            rfl
          · have hnum' := Bool.eq_false_iff.mpr hnum
            rw [hnum'] at ht
            refine DSs.ifc (kb := true) (DT.cast (DW.t (DW.or (DT.cmp (DE.pe v5 rfl) DE.str oa_eqS) (fun _ => DW.or1 (DW.t (DW.and (DT.cmp (DE.slice (DE.pe v5 rfl) DO.none (DO.some DE.int) (sa_str (le_line (by have := hbare.1; omega)))) DE.str oa_eqS) (fun _ => DW.and1 (DT.cmp (DE.ixL (DE.pe v1 rfl) DE.int rfl rfl) DE.str oa_neS))))))) ht) (fun _ => DSs.ret1 DE.non (fin_same (hN fun s h t hd => ?_) rfl)) (fun hc => by cases hc)
            obtain ⟨a', e', hn', _⟩ := hd
            rw [e] at e'
            obtain rfl : a = a' := by simpa using (List.cons.inj e').1
            exact hnum hn'
      · refine DSs.ifc (kb := true) (DW.t (DW.orF (DT.cast (DT.cmp (DE.callB cd g_len T.z_len boot_len (DA.cons (DE.pe v1 rfl) DA.nil) (ca_len rfl)) DE.int oa_ne) rfl) (DW.orF (DT.cast (DT.cmp (DE.ixL (DE.pe v1 rfl) DE.int rfl rfl) (DE.tup (DA.cons DE.str (DA.cons DE.str (DA.cons DE.str (DA.cons DE.str DA.nil))))) (oa_notInT (xs := hdL.map PV.str) rfl rfl)) (by rw [inV_str, decide_eq_true (hd_memS g)]; rfl)) (DW.or1 (DT.cast (DT.cmp (DE.ixL (DE.pe v1 rfl) DE.int rfl rfl) (DE.tup (DA.cons DE.str (DA.cons DE.str DA.nil))) (oa_notInT (xs := tnL.map PV.str) rfl rfl)) (by rw [inV_str, decide_eq_false hc]; rfl)))))) (fun _ => DSs.ret1 DE.non (fin_same (hN fun s h t hd => ?_) rfl)) (fun hc => by cases hc)
        obtain ⟨a', e', _⟩ := hd
        rw [e] at e'
        simp only [List.cons.injEq, and_true] at e'
        exact hc (by rw [e'.2.2]; exact tn_memS t)
    · refine DSs.ifc (kb := true) (DW.t (DW.orF (DT.cast (DT.cmp (DE.callB cd g_len T.z_len boot_len (DA.cons (DE.pe v1 rfl) DA.nil) (ca_len rfl)) DE.int oa_ne) rfl) (DW.orT (DT.cast (DT.cmp (DE.ixL (DE.pe v1 rfl) DE.int rfl rfl) (DE.tup (DA.cons DE.str (DA.cons DE.str (DA.cons DE.str (DA.cons DE.str DA.nil))))) (oa_notInT (xs := hdL.map PV.str) rfl rfl)) (by rw [inV_str, decide_eq_false hb]; rfl))))) (fun _ => DSs.ret1 DE.non (fin_same (hN fun s h t hd => ?_) rfl)) (fun hc => by cases hc)
      obtain ⟨a', e', _⟩ := hd
      rw [e] at e'
      simp only [List.cons.injEq, and_true] at e'
      exact hb (by rw [e'.2.1]; exact hd_memS h)
  · show DSs X _ [_, _, _, _, _, _] _ _
    refine CxF.setP (q := .lst ((wds z).map PV.str)) cx 1 rfl (by decide +kernel) (DE.cast (DE.bmS PySem.F.slot_str_split PySem.F.type_str_split (DE.pe v0 rfl) (DA.cons DE.str DA.nil) (ma_split rfl (le_line (by have := hz.1; omega)))) (congrArg PV.lst rfl)) ?_
    show DSs X _ [_, _, _, _, _, _] _ _
    refine DSs.ifc (kb := true) (DW.t (DW.orT (DT.cast (DT.cmp (DE.callB cd g_len T.z_len boot_len (DA.cons (DE.pe v1 rfl) DA.nil) (ca_len rfl)) DE.int oa_ne) (by rw [List.length_map, decide_eq_false (show ¬ (((wds z).length : Nat) : Int) = 3 by omega)]; rfl)))) (fun _ => DSs.ret1 DE.non (fin_same (hN fun s h t hd => ?_) rfl)) (fun hc => by cases hc)
    obtain ⟨a', e', _⟩ := hd
    rw [e'] at h3
    exact h3 rfl
theorem sc_law_right : FnScope ["text", "due", "again", "found", "caught", "e"] ["text"] (defScope s_law_right) := ⟨rfl, rfl, rfl, by decide +kernel, rfl, by decide +kernel, by decide +kernel⟩
def A_law_right : ASp := fun args μ Q _ => ∃ z : Str, args = [.str z] ∧ TxOk 600 z ∧ Q (.bl true) μ
theorem ok_law_right (T : Txt K mg CC C0) : FnA P w K mg base 3 "_law_right" A_law_right := by
  refine T.d_law_right.ok sc_law_right (by rintro _ _ _ _ ⟨_, rfl, _⟩; rfl) ?_
  rintro X _ μ Q E cx ⟨z, rfl, hz, hQ⟩
  have cd := cx.toCxD
  have v0 : ∀ {pos : Pos}, PE X (.Name "text" pos) (tVar 0) := cx.var 0 rfl (by decide +kernel)
  have v1 : ∀ {pos : Pos}, PE X (.Name "due" pos) (tVar 1) := cx.var 1 rfl (by decide +kernel)
  have v2 : ∀ {pos : Pos}, PE X (.Name "again" pos) (tVar 2) := cx.var 2 rfl (by decide +kernel)
  have v3 : ∀ {pos : Pos}, PE X (.Name "found" pos) (tVar 3) := cx.var 3 rfl (by decide +kernel)
  have v4 : ∀ {pos : Pos}, PE X (.Name "caught" pos) (tVar 4) := cx.var 4 rfl (by decide +kernel)
  have v5 : ∀ {pos : Pos}, PE X (.Name "e" pos) (tVar 5) := cx.var 5 rfl (by decide +kernel)
  have FX_read_spiral := okX_read_spiral (P := P) (w := w) (base := base) T
  have g_law_due : (defScope s_law_right).names.lookup ("_law_due" : Str) = some .globalImplicit := by decide +kernel
  have g_abs : (defScope s_law_right).names.lookup ("abs" : Str) = some .globalImplicit := by decide +kernel
  have g_range : (defScope s_law_right).names.lookup ("range" : Str) = some .globalImplicit := by decide +kernel
  have g_read_spiral : (defScope s_law_right).names.lookup ("read_spiral" : Str) = some .globalImplicit := by decide +kernel
  have g_LaidError : (defScope s_law_right).names.lookup ("LaidError" : Str) = some .globalImplicit := by decide +kernel
  have g_law_kind : (defScope s_law_right).names.lookup ("_law_kind" : Str) = some .globalImplicit := by decide +kernel
  have g_isinstance : (defScope s_law_right).names.lookup ("isinstance" : Str) = some .globalImplicit := by decide +kernel
  have g_tuple : (defScope s_law_right).names.lookup ("tuple" : Str) = some .globalImplicit := by decide +kernel
  have g_bool : (defScope s_law_right).names.lookup ("bool" : Str) = some .globalImplicit := by decide +kernel
  have F_law_due := ok_law_due (P := P) (w := w) (base := base) T
  have F_read_spiral := ok_read_spiral (P := P) (w := w) (base := base) T
  have F_law_kind := ok_law_kind (P := P) (w := w) (base := base) T
  show DSs X _ [_, _, _, _, _, _] _ _
  refine cx.setGW 1 rfl (by decide +kernel) ?_
  refine WE.call cd F_law_due (by decide) g_law_due ?_
  refine WA.of (DA.cons (DE.pe v0 rfl) DA.nil) ?_
  refine ⟨z, rfl, hz, ?_, ?_⟩
  · intro s h t hd
    show DSs X _ [_, _, _, _, _, _] _ _
    by_cases hs : 1000000000000000000 < ((s.natAbs : Nat) : Int)
    · refine DSs.ifc (kb := true) (DW.t (DW.andT (DT.cast (DT.cmp (DE.pe v1 rfl) DE.non oa_notN) rfl) (DW.and1 (DT.cast (DT.cmp (DE.callB cd g_abs T.z_abs boot_abs (DA.cons (DE.ixT (DE.pe v1 rfl) DE.int rfl) DA.nil) ca_abs) (DE.bin DE.int DE.int (oa_powL (r := 1000000000000000000) ⟨by decide, by decide, by decide⟩ (by decide +kernel))) oa_gt) (decide_eq_true hs))))) (fun _ => DSs.ret1 DE.bl (fin_same hQ rfl)) (fun hc => by cases hc)
    · refine DSs.ifc (kb := false) (DW.t (DW.andT (DT.cast (DT.cmp (DE.pe v1 rfl) DE.non oa_notN) rfl) (DW.and1 (DT.cast (DT.cmp (DE.callB cd g_abs T.z_abs boot_abs (DA.cons (DE.ixT (DE.pe v1 rfl) DE.int rfl) DA.nil) ca_abs) (DE.bin DE.int DE.int (oa_powL (r := 1000000000000000000) ⟨by decide, by decide, by decide⟩ (by decide +kernel))) oa_gt) (decide_eq_false hs))))) (fun hc => by cases hc) (fun _ => DSs.nil ?_)
      show DSs X _ [_, _, _, _, _, _] _ _
      refine DSs.cons (DS.for cx.po cx.calm (DI.range1 (cx.gl _ g_range) (by rw [cx.emg]; exact T.z_range) DE.int (by decide) (by decide)) (fun i ρ' μ' => (∃ a2 a3 a4 : Option PV, ρ' = [some (.str z), some (spP s h t), a2, a3, a4, none]) ∧ μ' = μ) ⟨⟨none, none, none, rfl⟩, rfl⟩ (fun _ _ _ _ _ => trivial) ?_ ?_)
      · rintro i p ρ' μ' hi ⟨⟨a2, a3, a4, rfl⟩, rfl⟩
        refine ⟨_, DG.name (cx.tgt 2 rfl (by decide +kernel)), ?_⟩
        show DSs X _ [_, _, _, _, _, _] _ _
        refine CxF.setP cx 3 rfl (by decide +kernel) DE.non ?_
        show DSs X _ [_, _, _, _, _, _] _ _
        refine CxF.setP cx 4 rfl (by decide +kernel) DE.non ?_
        show DSs X _ [_, _, _, _, _, _] _ _
        refine DSs.cons (DS.tryCaught (C0 := C0) cx 5 4 rfl rfl (by decide +kernel) (by decide +kernel) g_LaidError T.no.mB (fun X' cx' => ?_))
        have v0' : ∀ {pos : Pos}, PE X' (.Name "text" pos) (tVar 0) := cx'.var 0 rfl (by decide +kernel)
        have cd' := cx'.toCxD
        refine CxF.setP (q := spP s h t) cx' 3 rfl (by decide +kernel) (DE.call cd' F_read_spiral (by decide) g_read_spiral (DA.cons (DE.pe v0' rfl) DA.nil) ⟨z, s, h, t, rfl, hz, hd, rfl, rfl⟩) ?_
        refine DSs.nil ?_
        show DSs X _ [_, _, _, _, _, _] _ _
        refine DSs.ifc (kb := false) (DW.t (DW.andF (DT.cast (DT.cmp (DE.pe v1 rfl) DE.non oa_isN) rfl))) (fun hc => by cases hc) (fun _ => DSs.nil ?_)
        show DSs X _ [_, _, _, _, _, _] _ _
        refine DSs.ifc (kb := false) (DT.cast (DT.cmp (DE.pe v1 rfl) DE.non oa_isN) rfl) (fun hc => by cases hc) (fun _ => DSs.nil ?_)
        show DSs X _ [_, _, _, _, _, _] _ _
        refine DSs.ifc (kb := false) (DT.cast (DW.t (DW.or (DT.not (DT.val (DE.isi (b := true) cd g_isinstance T.z_isinstance g_tuple T.z_tuple boot_tuple (DE.pe v3 rfl) (S := "tuple") rfl (by decide +kernel)))) (fun _ => DW.or (DT.cmp (DE.pe v3 rfl) (DE.pe v1 rfl) (oa_neD cd.room.units rfl rfl sp_shaped sp_shaped)) (fun _ => DW.or1 (DT.val (DE.isi (b := false) cd g_isinstance T.z_isinstance g_bool T.z_bool boot_bool (DE.ixT (DE.pe v3 rfl) DE.int rfl) (S := "int") rfl (by decide +kernel))))))) (by rw [sp_eqv]; rfl)) (fun hc => by cases hc) (fun _ => DSs.nil ?_)
        exact DSs.nil ⟨⟨_, _, _, rfl⟩, rfl⟩
      · rintro ρ' μ' ⟨⟨a2, a3, a4, rfl⟩, rfl⟩
        show DSs X _ [_, _, _, _, _, _] _ _
        refine DSs.ret1 DE.bl ?_
        exact fin_same hQ rfl
  · intro hn
    show DSs X _ [_, _, _, _, _, _] _ _
    refine DSs.ifc (kb := false) (DW.t (DW.andF (DT.cast (DT.cmp (DE.pe v1 rfl) DE.non oa_notN) rfl))) (fun hc => by cases hc) (fun _ => DSs.nil ?_)
    show DSs X _ [_, _, _, _, _, _] _ _
    refine DSs.cons (DS.for cx.po cx.calm (DI.range1 (cx.gl _ g_range) (by rw [cx.emg]; exact T.z_range) DE.int (by decide) (by decide)) (fun i ρ' μ' => (∃ a2 a3 a4 : Option PV, ρ' = [some (.str z), some .non, a2, a3, a4, none]) ∧ μ' = μ) ⟨⟨none, none, none, rfl⟩, rfl⟩ (fun _ _ _ _ _ => trivial) ?_ ?_)
    · rintro i p ρ' μ' hi ⟨⟨a2, a3, a4, rfl⟩, rfl⟩
      refine ⟨_, DG.name (cx.tgt 2 rfl (by decide +kernel)), ?_⟩
      show DSs X _ [_, _, _, _, _, _] _ _
      refine CxF.setP cx 3 rfl (by decide +kernel) DE.non ?_
      show DSs X _ [_, _, _, _, _, _] _ _
      refine CxF.setP cx 4 rfl (by decide +kernel) DE.non ?_
      show DSs X _ [_, _, _, _, _, _] _ _
      refine DSs.cons (DS.tryCaught (C0 := C0) cx 5 4 rfl rfl (by decide +kernel) (by decide +kernel) g_LaidError T.no.mB (fun X' cx' => ?_))
      have v0' : ∀ {pos : Pos}, PE X' (.Name "text" pos) (tVar 0) := cx'.var 0 rfl (by decide +kernel)
      have cd' := cx'.toCxD
      refine DSs.cons (DS.asgX (DX.call cd' FX_read_spiral (by decide) g_read_spiral (DA.cons (DE.pe v0' rfl) DA.nil) ⟨z, rfl, hz, hn, rfl, rfl⟩) ⟨T.x_e 2, by exact Nat.le_of_ble_eq_true rfl, ?_⟩)
      show DSs X _ [_, _, _, _, _, _] _ _
      refine DSs.ifc (kb := false) (DW.t (DW.andT (DT.cast (DT.cmp (DE.pe v1 rfl) DE.non oa_isN) rfl) (DW.and1 (DT.cast (DT.cmp (DE.call cd F_law_kind (by decide) g_law_kind (DA.cons (DE.pe v4 rfl) DA.nil) ⟨excP (txX (CC 2)), spiT, rfl, .inr ⟨rfl, rfl⟩, rfl, rfl⟩) (DE.cast (q := spiT) (DE.tup (DA.cons DE.str DA.nil)) rfl) (oa_neD cd.room.units rfl rfl spi_shaped spi_shaped)) (by rw [spi_eqv]; rfl))))) (fun hc => by cases hc) (fun _ => DSs.nil ?_)
      show DSs X _ [_, _, _, _, _, _] _ _
      refine DSs.ifc (kb := true) (DT.cast (DT.cmp (DE.pe v1 rfl) DE.non oa_isN) rfl) (fun _ => ?_) (fun hc => by cases hc)
      refine DSs.cons (DS.cont ?_)
      exact ⟨⟨_, _, _, rfl⟩, rfl⟩
    · rintro ρ' μ' ⟨⟨a2, a3, a4, rfl⟩, rfl⟩
      show DSs X _ [_, _, _, _, _, _] _ _
      refine DSs.ret1 DE.bl ?_
      exact fin_same hQ rfl
theorem nmp_shaped {μ : Mem} : SeqAt.shaped (toD (vw μ (nmP (-7)))) = true := by
  show SeqAt.shaped (.tuple [.str "number", .int (-7)]) = true
  decide +kernel
theorem nmp_eqv {μ : Mem} : PyData.eqv (toD (vw μ (nmP (-7)))) (toD (vw μ (nmP (-7)))) = true := by
  show PyData.eqv (.tuple [.str "number", .int (-7)]) (.tuple [.str "number", .int (-7)]) = true
  decide +kernel
theorem sc_law : FnScope ["script", "deck", "turn", "spiral", "text", "some", "k", "odd", "said", "fixed"] ["script"] (defScope s_law) := ⟨rfl, rfl, rfl, by decide +kernel, rfl, by decide +kernel, by decide +kernel⟩
theorem run_law (T : Txt K mg CC C0) : ∀ (X : Cx) (args : List PV) (μ : Mem) (Q : PV → Mem → Prop) (E : EX → Mem → Prop), CxF X P w K mg base ["script", "deck", "turn", "spiral", "text", "some", "k", "odd", "said", "fixed"] (defScope s_law) 4 → spLaw args μ Q E → DSs X (defBody s_law) (entry ["script", "deck", "turn", "spiral", "text", "some", "k", "odd", "said", "fixed"] args) μ (fnEnds μ Q) := by
  rintro X _ μ Q E cx ⟨ns, rfl, rfl, hl, hbits, hQ⟩
  have cd := cx.toCxD
  have v0 : ∀ {pos : Pos}, PE X (.Name "script" pos) (tVar 0) := cx.var 0 rfl (by decide +kernel)
  have v1 : ∀ {pos : Pos}, PE X (.Name "deck" pos) (tVar 1) := cx.var 1 rfl (by decide +kernel)
  have v2 : ∀ {pos : Pos}, PE X (.Name "turn" pos) (tVar 2) := cx.var 2 rfl (by decide +kernel)
  have v3 : ∀ {pos : Pos}, PE X (.Name "spiral" pos) (tVar 3) := cx.var 3 rfl (by decide +kernel)
  have v4 : ∀ {pos : Pos}, PE X (.Name "text" pos) (tVar 4) := cx.var 4 rfl (by decide +kernel)
  have v5 : ∀ {pos : Pos}, PE X (.Name "some" pos) (tVar 5) := cx.var 5 rfl (by decide +kernel)
  have v8 : ∀ {pos : Pos}, PE X (.Name "said" pos) (tVar 8) := cx.var 8 rfl (by decide +kernel)
  have v9 : ∀ {pos : Pos}, PE X (.Name "fixed" pos) (tVar 9) := cx.var 9 rfl (by decide +kernel)
  have g_law_deck : (defScope s_law).names.lookup ("_law_deck" : Str) = some .globalImplicit := by decide +kernel
  have g_range : (defScope s_law).names.lookup ("range" : Str) = some .globalImplicit := by decide +kernel
  have g_law_spiral : (defScope s_law).names.lookup ("_law_spiral" : Str) = some .globalImplicit := by decide +kernel
  have g_str : (defScope s_law).names.lookup ("str" : Str) = some .globalImplicit := by decide +kernel
  have g_law_sign : (defScope s_law).names.lookup ("_law_sign" : Str) = some .globalImplicit := by decide +kernel
  have g_law_next : (defScope s_law).names.lookup ("_law_next" : Str) = some .globalImplicit := by decide +kernel
  have g_NoAsk : (defScope s_law).names.lookup ("NoAsk" : Str) = some .globalImplicit := by decide +kernel
  have g_NoBox : (defScope s_law).names.lookup ("NoBox" : Str) = some .globalImplicit := by decide +kernel
  have g_NoSpiral : (defScope s_law).names.lookup ("NoSpiral" : Str) = some .globalImplicit := by decide +kernel
  have g_law_kind : (defScope s_law).names.lookup ("_law_kind" : Str) = some .globalImplicit := by decide +kernel
  have g_NoNumber : (defScope s_law).names.lookup ("NoNumber" : Str) = some .globalImplicit := by decide +kernel
  have F_law_deck := ok_law_deck (P := P) (w := w) (base := base) T
  have F_law_spiral := ok_law_spiral (P := P) (w := w) (base := base) T
  have F_law_spoilt := ok_law_spoilt (P := P) (w := w) (base := base) T
  have F_law_sign := ok_law_sign (P := P) (w := w) (base := base) T
  have F_law_right := ok_law_right (P := P) (w := w) (base := base) T
  have F_law_next := ok_law_next (P := P) (w := w) (base := base) T
  have F_law_kind := ok_law_kind (P := P) (w := w) (base := base) T
  have l1 : ∀ (x : Str), x.length = 1 → x.length ≤ 1 := fun x h => Nat.le_of_eq h
  have one1 : ∀ {x : Str}, (Nat.ble x.length 1 && PyData.strOk x) = true → TxOk 1 x := fun h => TxOk.lit h
  show DSs X _ [_, _, _, _, _, _, _, _, _, _] _ _
  refine cx.setGW 1 rfl (by decide +kernel) ?_
  refine WE.call cd F_law_deck (by decide) g_law_deck ?_
  refine WA.of (DA.cons (DE.pe v0 rfl) DA.nil) ?_
  refine ⟨ns, rfl, hl, ?_⟩
  show DSs X _ [_, _, _, _, _, _, _, _, _, _] _ _
  refine DSs.cons (DS.for cx.po cx.calm (DI.range1 (cx.gl _ g_range) (by rw [cx.emg]; exact T.z_range) DE.int (by decide) (by decide)) (fun i ρ' μ' => ∃ (b_turn b_spiral b_text b_some : Option PV) (d' : Deck) (ex : Mem), ρ' = [some (.scr (ns.map PV.int)), some (.obj 0), b_turn, b_spiral, b_text, b_some, none, none, none, none] ∧ μ' = deckMO d' :: ex ∧ DkOk d' (1000 * ((i : Nat) : Int))) ⟨none, none, none, none, _, [], rfl, rfl, DkOk.init hl⟩ (fun _ _ _ _ _ => trivial) ?_ ?_)
  · rintro i p ρ' μ' hi ⟨b_turn, b_spiral, b_text, b_some, d1, ex, rfl, rfl, ok1⟩
    have hi6 : i < 6 := by
      have := (List.getElem?_eq_some_iff.mp hi).1
      rw [rngL_length] at this
      omega
    refine ⟨_, DG.name (cx.tgt 2 rfl (by decide +kernel)), ?_⟩
    show DSs X _ [_, _, _, _, _, _, _, _, _, _] _ _
    refine cx.setGW 3 rfl (by decide +kernel) ?_
    refine WE.call cd F_law_spiral (by decide) g_law_spiral ?_
    refine WA.of (DA.cons (DE.pe v1 rfl) DA.nil) ?_
    refine ⟨0, d1, _, rfl, rfl, ok1, by omega, ?_⟩
    intro s g t d2 ls us ok2
    have bs : B 100 s := B.rng ls us (by decide +kernel)
    have ht := shownT (s := s) (h := g) (t := t) bs
    show DSs X _ [_, _, _, _, _, _, _, _, _, _] (deckMO d2 :: ex) _
    refine CxF.setP (q := .str (shownS s g t)) cx 4 rfl (by decide +kernel) (DE.bmS PySem.F.slot_str_join PySem.F.type_str_join DE.str (DA.cons (DE.lst (DA.cons (DE.callTy cd g_str T.z_str boot_str (DA.cons (DE.ixT (DE.pe v3 rfl) DE.int rfl) DA.nil) (ca_str (B.log bs))) (DA.cons (DE.ixT (DE.pe v3 rfl) DE.int rfl) (DA.cons (DE.ixT (DE.pe v3 rfl) DE.int rfl) DA.nil)))) DA.nil) (ma_join (ys := [nS s, hdS g, tnS t]) rfl (shown_line bs))) ?_
    show DSs X _ [_, _, _, _, _, _, _, _, _, _] _ _
    refine CxF.setLc 5 cx rfl (by decide +kernel) (by decide +kernel) (by decide +kernel) (own := [("k", 6)]) (DI.range1 (cx.gl _ g_range) (by rw [cx.emg]; exact T.z_range) DE.int (by decide) (by decide)) (by decide +kernel) (Tgt.name cx.nd 6 rfl (by decide +kernel)) (by decide)
      (fun j ys m => ∃ d' : Deck, m = deckMO d' :: ex ∧ DkOk d' (1000 * ((i : Nat) : Int) + 9 + 50 * ((j : Nat) : Int)) ∧ ys.length = j ∧ ∀ y ∈ ys, ∃ w, TxOk 400 w ∧ y = .str w) ⟨d2, rfl, ok2.mono (by omega), rfl, fun _ h => nomatch h⟩ (fun _ _ _ _ => trivial) ?_ ?_
    · rintro j p ys m hj ⟨d3, rfl, ok3, hlen, hall⟩
      have hj6 : j < 6 := by
        have := (List.getElem?_eq_some_iff.mp hj).1
        rw [rngL_length] at this
        omega
      refine ⟨_, rfl, fun X' cx' => WTs.nil ?_⟩
      show if true = true then _ else _
      rw [if_pos rfl]
      intro X2 cx2
      refine WE.call cx2 F_law_spoilt (by decide) (by decide +kernel) ?_
      refine WA.of (DA.cons (DE.pe (cx2.var (x := "deck") 1 rfl (by decide +kernel)) rfl) (DA.cons (DE.pe (cx2.var (x := "text") 4 rfl (by decide +kernel)) rfl) DA.nil)) ?_
      refine ⟨0, d3, _, _, rfl, rfl, ok3, by omega, ht.mono (by decide), ?_⟩
      intro w d4 hw ok4
      refine ⟨by rw [hlen]; exact Nat.lt_of_lt_of_le hj6 (le_line (by decide)), d4, rfl, ok4.mono (by omega), by simp [hlen], fun y hy => ?_⟩
      rcases List.mem_append.mp hy with z | z
      · exact hall y z
      · exact ⟨w, hw, List.mem_singleton.mp z⟩
    rintro ys m ⟨d3, rfl, ok3, hlen, hall⟩
    have hlen6 : ys.length = 6 := by rw [hlen, rngL_length]; rfl
    rw [rngL_length] at ok3
    show DSs X _ [_, _, _, _, _, _, _, _, _, _] _ _
    refine CxF.setP (q := .obj (deckMO d3 :: ex).length) (μ1 := (deckMO d3 :: ex) ++ [.lst (ys ++ [PV.str (" " ++ shownS s g t), .str (shownS s g t ++ " "), .str (shownS s g t ++ "\n"), .str ("0" ++ shownS s g t), .str ("-" ++ shownS s g t), .str (rep1 (shownS s g t) " " "  "), .str (shownS s g t)])]) cx 5 rfl (by decide +kernel) (DE.catO (DE.pe v5 rfl) (DE.lst (DA.consT (DE.pe v4 rfl) (le_line (by have := ht.1; have := l1 " " (by decide +kernel); omega)) (DAT.cons (DET.of (DE.bin (DE.pe v4 rfl) DE.str (oa_addS (le_line (by have := ht.1; have := l1 " " (by decide +kernel); omega))))) (DAT.cons (DET.of (DE.bin (DE.pe v4 rfl) DE.str (oa_addS (le_line (by have := ht.1; have := l1 "\n" (by decide +kernel); omega))))) (DAT.cons (DET.of (DE.bin DE.str (DE.pe v4 rfl) (oa_addS (le_line (by have := ht.1; have := l1 "0" (by decide +kernel); omega))))) (DAT.cons (DET.of (DE.bin DE.str (DE.pe v4 rfl) (oa_addS (le_line (by have := ht.1; have := l1 "-" (by decide +kernel); omega))))) (DAT.cons (DET.rep1 (DE.pe v4 rfl) (by have := ht.1; omega)) (DAT.cons (DET.of (DE.pe v4 rfl)) DAT.nil)))))))) rfl rfl (by rw [hlen6]; exact le_line (Nat.le_of_ble_eq_true rfl))) ?_
    show DSs X _ [_, _, _, _, _, _, _, _, _, _] _ _
    refine DSs.cons (DS.exprW (WE.append (DE.pe v5 rfl) (asL_obj app_last) ?_))
    refine WE.bin ?_
    refine WE.of (DE.bin (DE.bin (DE.pe v4 rfl) DE.str (oa_addS (le_line (by have := ht.1; have := l1 " " (by decide +kernel); omega)))) DE.int (oa_mulS (by decide) (by decide) (by rw [len_app]; have := ht.1; have := l1 " " (by decide +kernel); show _ * 5 ≤ _; omega))) ?_
    refine WE.call cd F_law_sign (by decide) g_law_sign ?_
    refine WA.of (DA.cons (DE.pe v1 rfl) DA.nil) ?_
    refine ⟨0, d3, _, rfl, rfl, ok3, by omega, ?_⟩
    intro g1 d4 hg1 ok4
    have h5 : TxOk (5 * (36 + 1)) (Txt.mul (shownS s g t ++ " ") 5) := TxOk.mul (k := 5) (ht.app (one1 (by decide +kernel)))
    refine ⟨_, oa_addS (le_line (by have := h5.1; have := hg1.1; omega)), ?_⟩
    have e4 : ((deckMO d3 :: ex) ++ [MO.lst (ys ++ [PV.str (" " ++ shownS s g t), .str (shownS s g t ++ " "), .str (shownS s g t ++ "\n"), .str ("0" ++ shownS s g t), .str ("-" ++ shownS s g t), .str (rep1 (shownS s g t) " " "  "), .str (shownS s g t)])]).set 0 (deckMO d4) = (deckMO d4 :: ex) ++ [MO.lst (ys ++ [PV.str (" " ++ shownS s g t), .str (shownS s g t ++ " "), .str (shownS s g t ++ "\n"), .str ("0" ++ shownS s g t), .str ("-" ++ shownS s g t), .str (rep1 (shownS s g t) " " "  "), .str (shownS s g t)])] := rfl
    rw [e4]
    have k4 : ((deckMO d4 :: ex) ++ [MO.lst (ys ++ [PV.str (" " ++ shownS s g t), .str (shownS s g t ++ " "), .str (shownS s g t ++ "\n"), .str ("0" ++ shownS s g t), .str ("-" ++ shownS s g t), .str (rep1 (shownS s g t) " " "  "), .str (shownS s g t)])])[(deckMO d3 :: ex).length]? = some (MO.lst (ys ++ [PV.str (" " ++ shownS s g t), .str (shownS s g t ++ " "), .str (shownS s g t ++ "\n"), .str ("0" ++ shownS s g t), .str ("-" ++ shownS s g t), .str (rep1 (shownS s g t) " " "  "), .str (shownS s g t)])) := app_last (μ := deckMO d4 :: ex)
    refine ⟨_, k4, by rw [List.length_append, hlen6]; exact Nat.lt_of_lt_of_le (show 6 + 7 < 1000 by decide) (le_line (by decide)), ?_⟩
    obtain ⟨XS, hXS⟩ : ∃ XS, XS = ys ++ [PV.str (" " ++ shownS s g t), .str (shownS s g t ++ " "), .str (shownS s g t ++ "\n"), .str ("0" ++ shownS s g t), .str ("-" ++ shownS s g t), .str (rep1 (shownS s g t) " " "  "), .str (shownS s g t)] ++ [PV.str (Txt.mul (shownS s g t ++ " ") 5 ++ g1)] := ⟨_, rfl⟩
    have e5 : ((deckMO d4 :: ex) ++ [MO.lst (ys ++ [PV.str (" " ++ shownS s g t), .str (shownS s g t ++ " "), .str (shownS s g t ++ "\n"), .str ("0" ++ shownS s g t), .str ("-" ++ shownS s g t), .str (rep1 (shownS s g t) " " "  "), .str (shownS s g t)])]).set (deckMO d3 :: ex).length (.lst (ys ++ [PV.str (" " ++ shownS s g t), .str (shownS s g t ++ " "), .str (shownS s g t ++ "\n"), .str ("0" ++ shownS s g t), .str ("-" ++ shownS s g t), .str (rep1 (shownS s g t) " " "  "), .str (shownS s g t)] ++ [PV.str (Txt.mul (shownS s g t ++ " ") 5 ++ g1)])) = (deckMO d4 :: ex) ++ [MO.lst XS] := by rw [hXS]; exact app_setl (μ := deckMO d4 :: ex)
    rw [e5]
    have lXS : XS.length = 14 := by rw [hXS, List.length_append, List.length_append, hlen6]; rfl
    have okXS : ∀ y ∈ XS, ∃ w, TxOk 600 w ∧ y = .str w := by
      intro y hy
      rw [hXS] at hy
      rcases List.mem_append.mp hy with hy | hy
      · rcases List.mem_append.mp hy with hy | hy
        · obtain ⟨w, hw, e⟩ := hall y hy
          exact ⟨w, hw.mono (by decide), e⟩
        · simp only [List.mem_cons, List.not_mem_nil, or_false] at hy
          rcases hy with e | e | e | e | e | e | e
          · exact ⟨_, ((one1 (by decide +kernel)).app ht).mono (by decide), e⟩
          · exact ⟨_, (ht.app (one1 (by decide +kernel))).mono (by decide), e⟩
          · exact ⟨_, (ht.app (one1 (by decide +kernel))).mono (by decide), e⟩
          · exact ⟨_, ((one1 (by decide +kernel)).app ht).mono (by decide), e⟩
          · exact ⟨_, ((one1 (by decide +kernel)).app ht).mono (by decide), e⟩
          · exact ⟨_, (rep1_ok ht (TxOk.lit (n := 2) (by decide +kernel))).mono (by decide), e⟩
          · exact ⟨_, ht.mono (by decide), e⟩
      · exact ⟨_, (h5.app hg1).mono (by decide), List.mem_singleton.mp hy⟩
    have k5 : ((deckMO d4 :: ex) ++ [MO.lst XS])[(deckMO d3 :: ex).length]? = some (MO.lst XS) := app_last (μ := deckMO d4 :: ex)
    show DSs X _ [_, _, _, _, _, _, _, _, _, _] _ _
    refine DSs.ifcW (WT.cmp ?_)
    refine WE.compW cx (by decide +kernel) (own := [("odd", 7)]) (Tgt.name cx.nd 7 rfl (by decide +kernel)) (by decide) (DIW.list ?_)
    refine WE.bin ?_
    refine WE.of (DE.pe v5 rfl) ?_
    refine WE.lst ?_
    refine WA.cons ?_
    refine WE.call cd F_law_sign (by decide) g_law_sign ?_
    refine WA.of (DA.cons (DE.pe v1 rfl) DA.nil) ?_
    refine ⟨0, d4, _, rfl, rfl, ok4, by omega, ?_⟩
    intro g2 d5 hg2 ok5
    have e6 : ((deckMO d4 :: ex) ++ [MO.lst XS]).set 0 (deckMO d5) = (deckMO d5 :: ex) ++ [MO.lst XS] := rfl
    rw [e6]
    have k6 : ((deckMO d5 :: ex) ++ [MO.lst XS])[(deckMO d3 :: ex).length]? = some (MO.lst XS) := app_last (μ := deckMO d5 :: ex)
    refine WA.of (DA.cons (DE.slice (DE.pe v4 rfl) DO.none (DO.some (DE.neg DE.int)) (sa_str (le_line (by have := ht.1; omega)))) DA.nil) ?_
    refine ⟨le_line (Nat.le_of_ble_eq_true rfl), ?_⟩
    refine ⟨_, oa_cat (asK_obj k6) rfl (by rw [lXS]; exact le_line (Nat.le_of_ble_eq_true rfl)), ?_⟩
    have okYS : ∀ y ∈ XS ++ [PV.str g2, PV.str (cutS (shownS s g t) none (some (-1)))], ∃ w, TxOk 600 w ∧ y = .str w := by
      intro y hy
      rcases List.mem_append.mp hy with hy | hy
      · exact okXS y hy
      · simp only [List.mem_cons, List.not_mem_nil, or_false] at hy
        rcases hy with e | e
        · exact ⟨_, hg2.mono (by decide), e⟩
        · exact ⟨_, ht.cut.mono (by decide), e⟩
    refine ⟨_, rfl, ?_⟩
    refine ⟨fun j zs m => zs = [] ∧ m = (deckMO d5 :: ex) ++ [MO.lst XS], ⟨rfl, rfl⟩, fun _ _ _ _ => rfl, ?_, ?_⟩
    · rintro j p zs m hp ⟨rfl, rfl⟩
      obtain ⟨w, hw, rfl⟩ := okYS p (List.mem_of_getElem? hp)
      refine ⟨_, rfl, fun X' cx' => ?_⟩
      refine WTs.one (WT.of (DT.cast (k' := false) (DT.not (DT.val (DE.call cx' F_law_right (by decide) (by decide +kernel) (DA.cons (DE.pe (cx'.var (x := "odd") 7 rfl (by decide +kernel)) rfl) DA.nil) ⟨_, rfl, hw, rfl, rfl⟩))) rfl) ?_)
      show if false = true then _ else _
      rw [if_neg (by decide)]
      exact ⟨rfl, rfl⟩
    rintro zs m ⟨rfl, rfl⟩
    refine WE.of (DE.lst DA.nil) ?_
    refine ⟨_, oa_neD cd.room.units rfl rfl nil_shaped nil_shaped, ?_⟩
    show DSs X _ _ _ _
    refine DSs.nil (DSs.nil ⟨_, _, _, _, d5, ex ++ [MO.lst XS], rfl, rfl, ok5.mono (by omega)⟩)
  · rintro ρ' μ' ⟨b_turn, b_spiral, b_text, b_some, d1, ex, rfl, rfl, ok1⟩
    rw [rngL_length] at ok1
    show DSs X _ [_, _, _, _, _, _, _, _, _, _] _ _
    refine cx.setGW 8 rfl (by decide +kernel) ?_
    refine WE.ix ?_
    refine WE.of (DE.lst (DA.cons DE.str (DA.cons DE.str (DA.cons DE.str (DA.cons (DE.bin (DE.bin DE.str DE.int (oa_mulS (by decide) (by decide) (by decide +kernel))) DE.str (oa_addS (le_line (by rw [mul_len]; decide +kernel)))) DA.nil))))) ?_
    refine WE.call cd F_law_next (by decide) g_law_next ?_
    refine WA.of (DA.cons (DE.pe v1 rfl) (DA.cons (DE.int) DA.nil)) ?_
    refine ⟨0, d1, _, _, rfl, rfl, ok1, by omega, by decide, (show B 7000 (4 : Int) by decide +kernel), ?_⟩
    intro r2 d2 p2 q2 ok2
    refine ixW rfl p2 (by simpa using q2) ?_
    intro w0 hw0
    have hw1 : ∃ w : Str, w0 = .str w ∧ TxOk 100 w := by
      simp only [List.mem_cons, List.not_mem_nil, or_false] at hw0
      rcases hw0 with e | e | e | e
      · exact ⟨_, e, TxOk.lit (by decide +kernel)⟩
      · exact ⟨_, e, TxOk.lit (by decide +kernel)⟩
      · exact ⟨_, e, TxOk.lit (by decide +kernel)⟩
      · exact ⟨_, e, ((TxOk.mul (n := 1) (k := 60) (TxOk.lit (by decide +kernel))).app (one1 (by decide +kernel))).mono (by decide)⟩
    obtain ⟨w, rfl, hw⟩ := hw1
    show DSs X _ [_, _, _, _, _, _, _, _, _, _] _ _
    refine DSs.ifc (kb := false) (DT.cmp (DE.cast (q := .lst (([w, w, w] : List Str).map PV.str)) (DE.lst (DA.cons (DE.callTy cd g_str T.z_str boot_str (DA.cons (DE.mkX cd T.o_NoAsk g_NoAsk (DE.pe v8 rfl)) DA.nil) (ca_strX cd.room.units (by rw [cd.eK]; exact T.x_s _) (by rw [cd.eK]; exact (T.x_is _).xf.exC))) (DA.cons (DE.callTy cd g_str T.z_str boot_str (DA.cons (DE.mkX cd T.o_NoBox g_NoBox (DE.pe v8 rfl)) DA.nil) (ca_strX cd.room.units (by rw [cd.eK]; exact T.x_s _) (by rw [cd.eK]; exact (T.x_is _).xf.exC))) (DA.cons (DE.callTy cd g_str T.z_str boot_str (DA.cons (DE.mkX cd T.o_NoSpiral g_NoSpiral (DE.pe v8 rfl)) DA.nil) (ca_strX cd.room.units (by rw [cd.eK]; exact T.x_s _) (by rw [cd.eK]; exact (T.x_is _).xf.exC))) DA.nil)))) rfl) (DE.cast (q := .lst (([w, w, w] : List Str).map PV.str)) (DE.bin (DE.lst (DA.cons (DE.pe v8 rfl) DA.nil)) DE.int (oa_rep rfl (by decide) (by decide) (le_line (Nat.le_of_ble_eq_true rfl)))) rfl) (oa_neSs (as := [w, w, w]) cd.room.units rfl rfl (by
      intro a ha
      simp only [List.mem_cons, List.not_mem_nil, or_false, or_self] at ha
      rw [ha]
      exact hw.2))) (fun hc => by cases hc) (fun _ => DSs.nil ?_)
    show DSs X _ [_, _, _, _, _, _, _, _, _, _] _ _
    refine DSs.ifc (kb := false) (DT.cast (DT.cmp (DE.call cd F_law_kind (by decide) g_law_kind (DA.cons (DE.mkNo cd T.no (ok_noinit T) (by decide) g_NoNumber (n := -7) (DE.neg DE.int) (by decide)) DA.nil) ⟨_, nmP (-7), rfl, .inl ⟨-7, rfl, rfl⟩, rfl, rfl⟩) (DE.cast (q := nmP (-7)) (DE.tup (DA.cons DE.str (DA.cons (DE.neg DE.int) DA.nil))) rfl) (oa_neD cd.room.units rfl rfl nmp_shaped nmp_shaped)) (by rw [nmp_eqv]; rfl)) (fun hc => by cases hc) (fun _ => DSs.nil ?_)
    show DSs X _ [_, _, _, _, _, _, _, _, _, _] _ _
    refine CxF.setP (q := .lst [PV.str "", PV.str " ", PV.str "1 e", PV.str "1 e l r", PV.str "1 l e", PV.str "-0 e l", PV.str "0 e l", PV.str "e l 1", PV.str "1,e,l", PV.str "1 el r", PV.str "1 e\nl", .str (Txt.mul "~" 200)]) cx 9 rfl (by decide +kernel) (DE.lst (DA.cons (DE.str) (DA.cons (DE.str) (DA.cons (DE.str) (DA.cons (DE.str) (DA.cons (DE.str) (DA.cons (DE.str) (DA.cons (DE.str) (DA.cons (DE.str) (DA.cons (DE.str) (DA.cons (DE.str) (DA.cons (DE.str) (DA.cons (DE.bin DE.str DE.int (oa_mulS (by decide) (by decide) (by decide +kernel))) (DA.nil)))))))))))))) ?_
    have okF : ∀ y ∈ [PV.str "", PV.str " ", PV.str "1 e", PV.str "1 e l r", PV.str "1 l e", PV.str "-0 e l", PV.str "0 e l", PV.str "e l 1", PV.str "1,e,l", PV.str "1 el r", PV.str "1 e\nl", .str (Txt.mul "~" 200)], ∃ w, TxOk 600 w ∧ y = .str w := by
      intro y hy
      simp only [List.mem_cons, List.not_mem_nil, or_false] at hy
      rcases hy with e | e | e | e | e | e | e | e | e | e | e | e
      all_goals refine ⟨_, ?_, e⟩
      all_goals first
        | exact (TxOk.mul (n := 1) (k := 200) (TxOk.lit (by decide +kernel))).mono (by decide)
        | exact TxOk.lit (n := 600) (by decide +kernel)
    show DSs X _ [_, _, _, _, _, _, _, _, _, _] _ _
    refine DSs.ret1 (DE.cast (q := .bl true) (DE.cmp (DE.cast (q := .lst []) (DE.comp cx (DI.list (p := .lst [PV.str "", PV.str " ", PV.str "1 e", PV.str "1 e l r", PV.str "1 l e", PV.str "-0 e l", PV.str "0 e l", PV.str "e l 1", PV.str "1,e,l", PV.str "1 el r", PV.str "1 e\nl", .str (Txt.mul "~" 200)]) (xs := [PV.str "", PV.str " ", PV.str "1 e", PV.str "1 e l r", PV.str "1 l e", PV.str "-0 e l", PV.str "0 e l", PV.str "e l 1", PV.str "1,e,l", PV.str "1 el r", PV.str "1 e\nl", .str (Txt.mul "~" 200)]) (DE.pe v9 rfl) rfl) (by decide +kernel) (own := [("text", 4)]) (Tgt.name cx.nd 4 rfl (by decide +kernel)) (by decide) noneF rfl (le_line (Nat.le_of_ble_eq_true rfl)) ?_) (congrArg PV.lst (none_all _))) (DE.lst DA.nil) (oa_eqD cd.room.units rfl rfl nil_shaped nil_shaped)) rfl) ?_
    · intro q hq
      obtain ⟨w, hw, rfl⟩ := okF q hq
      exact ⟨_, rfl, .inl ⟨rfl, fun X' cx' => WTs.one (WT.of (DT.cast (DT.not (DT.val (DE.call cx' F_law_right (by decide) (by decide +kernel) (DA.cons (DE.pe (cx'.var (x := "text") 4 rfl (by decide +kernel)) rfl) DA.nil) ⟨_, rfl, hw, rfl, rfl⟩))) rfl) ⟨rfl, rfl⟩)⟩⟩
    · exact ⟨.bl true, [], .drop _ [] _ Chg.refl rfl, hQ⟩
end
theorem all_mk {l : PySem.W.OpenLaw} {w : World} {K : PySem.W.Frag} {h : Heap} {mg : Str → Option Value} {fa : Addr} (X : K.In h) (G : h.Ns mainGlobals mg) (hfa : mg "law" = some (.ref fa))
    {od0 an0 : Option Addr} {sl0 : Array (Option Value)} {oc0 kV0 dc0 pm0 cd0 ct0 : Value} {f0 : Addr}
    {od1 an1 : Option Addr} {sl1 : Array (Option Value)} {oc1 kV1 dc1 pm1 cd1 ct1 : Value} {f1 : Addr}
    {od2 an2 : Option Addr} {sl2 : Array (Option Value)} {oc2 kV2 dc2 pm2 cd2 ct2 : Value} {f2 : Addr}
    {od3 an3 : Option Addr} {sl3 : Array (Option Value)} {oc3 kV3 dc3 pm3 cd3 ct3 : Value} {f3 : Addr}
    {od4 an4 : Option Addr} {sl4 : Array (Option Value)} {oc4 kV4 dc4 pm4 cd4 ct4 : Value} {f4 : Addr}
    {od5 an5 : Option Addr} {sl5 : Array (Option Value)} {oc5 kV5 dc5 pm5 cd5 ct5 : Value} {f5 : Addr}
    {od6 an6 : Option Addr} {sl6 : Array (Option Value)} {oc6 kV6 dc6 pm6 cd6 ct6 : Value} {f6 : Addr}
    {od7 an7 : Option Addr} {sl7 : Array (Option Value)} {oc7 kV7 dc7 pm7 cd7 ct7 : Value} {f7 : Addr}
    {od8 an8 : Option Addr} {sl8 : Array (Option Value)} {oc8 kV8 dc8 pm8 cd8 ct8 : Value} {f8 : Addr}
    {od9 an9 : Option Addr} {sl9 : Array (Option Value)} {oc9 kV9 dc9 pm9 cd9 ct9 : Value} {f9 : Addr}
    {od10 an10 : Option Addr} {sl10 : Array (Option Value)} {oc10 kV10 dc10 pm10 cd10 ct10 : Value} {f10 : Addr}
    {od11 an11 : Option Addr} {sl11 : Array (Option Value)} {oc11 kV11 dc11 pm11 cd11 ct11 : Value} {f11 : Addr}
    {od12 an12 : Option Addr} {sl12 : Array (Option Value)} {oc12 kV12 dc12 pm12 cd12 ct12 : Value} {f12 : Addr}
    {t_FIGURES : Tok}
    {t_HEADINGS : Tok}
    {t_TURNS : Tok}
    (a0 : PySem.W.nsIn K mainGlobals "is_number_word" = some (some (.ref f0)))
    (l0 : K.lookup f0 = some ⟨oc0, od0, .func (PySem.W.fnOf "is_number_word" "is_number_word" (defArgs s_is_number_word) (defBody s_is_number_word) (defScope s_is_number_word) .none kV0 dc0 pm0 an0 cd0 ct0), sl0⟩)
    (c0 : PySem.W.codeIn K cd0 "is_number_word" = true)
    (k0 : PySem.W.keepIn K (.ref f0) = true)
    (a1 : PySem.W.nsIn K mainGlobals "read_spiral" = some (some (.ref f1)))
    (l1 : K.lookup f1 = some ⟨oc1, od1, .func (PySem.W.fnOf "read_spiral" "read_spiral" (defArgs s_read_spiral) (defBody s_read_spiral) (defScope s_read_spiral) .none kV1 dc1 pm1 an1 cd1 ct1), sl1⟩)
    (c1 : PySem.W.codeIn K cd1 "read_spiral" = true)
    (k1 : PySem.W.keepIn K (.ref f1) = true)
    (a2 : PySem.W.nsIn K mainGlobals "_law_mix" = some (some (.ref f2)))
    (l2 : K.lookup f2 = some ⟨oc2, od2, .func (PySem.W.fnOf "_law_mix" "_law_mix" (defArgs s_law_mix) (defBody s_law_mix) (defScope s_law_mix) .none kV2 dc2 pm2 an2 cd2 ct2), sl2⟩)
    (c2 : PySem.W.codeIn K cd2 "_law_mix" = true)
    (k2 : PySem.W.keepIn K (.ref f2) = true)
    (a3 : PySem.W.nsIn K mainGlobals "_law_deck" = some (some (.ref f3)))
    (l3 : K.lookup f3 = some ⟨oc3, od3, .func (PySem.W.fnOf "_law_deck" "_law_deck" (defArgs s_law_deck) (defBody s_law_deck) (defScope s_law_deck) .none kV3 dc3 pm3 an3 cd3 ct3), sl3⟩)
    (c3 : PySem.W.codeIn K cd3 "_law_deck" = true)
    (k3 : PySem.W.keepIn K (.ref f3) = true)
    (a4 : PySem.W.nsIn K mainGlobals "_law_next" = some (some (.ref f4)))
    (l4 : K.lookup f4 = some ⟨oc4, od4, .func (PySem.W.fnOf "_law_next" "_law_next" (defArgs s_law_next) (defBody s_law_next) (defScope s_law_next) .none kV4 dc4 pm4 an4 cd4 ct4), sl4⟩)
    (c4 : PySem.W.codeIn K cd4 "_law_next" = true)
    (k4 : PySem.W.keepIn K (.ref f4) = true)
    (a5 : PySem.W.nsIn K mainGlobals "_law_great" = some (some (.ref f5)))
    (l5 : K.lookup f5 = some ⟨oc5, od5, .func (PySem.W.fnOf "_law_great" "_law_great" (defArgs s_law_great) (defBody s_law_great) (defScope s_law_great) .none kV5 dc5 pm5 an5 cd5 ct5), sl5⟩)
    (c5 : PySem.W.codeIn K cd5 "_law_great" = true)
    (k5 : PySem.W.keepIn K (.ref f5) = true)
    (a6 : PySem.W.nsIn K mainGlobals "_law_spiral" = some (some (.ref f6)))
    (l6 : K.lookup f6 = some ⟨oc6, od6, .func (PySem.W.fnOf "_law_spiral" "_law_spiral" (defArgs s_law_spiral) (defBody s_law_spiral) (defScope s_law_spiral) .none kV6 dc6 pm6 an6 cd6 ct6), sl6⟩)
    (c6 : PySem.W.codeIn K cd6 "_law_spiral" = true)
    (k6 : PySem.W.keepIn K (.ref f6) = true)
    (a7 : PySem.W.nsIn K mainGlobals "_law_kind" = some (some (.ref f7)))
    (l7 : K.lookup f7 = some ⟨oc7, od7, .func (PySem.W.fnOf "_law_kind" "_law_kind" (defArgs s_law_kind) (defBody s_law_kind) (defScope s_law_kind) .none kV7 dc7 pm7 an7 cd7 ct7), sl7⟩)
    (c7 : PySem.W.codeIn K cd7 "_law_kind" = true)
    (k7 : PySem.W.keepIn K (.ref f7) = true)
    (a8 : PySem.W.nsIn K mainGlobals "_law_sign" = some (some (.ref f8)))
    (l8 : K.lookup f8 = some ⟨oc8, od8, .func (PySem.W.fnOf "_law_sign" "_law_sign" (defArgs s_law_sign) (defBody s_law_sign) (defScope s_law_sign) .none kV8 dc8 pm8 an8 cd8 ct8), sl8⟩)
    (c8 : PySem.W.codeIn K cd8 "_law_sign" = true)
    (k8 : PySem.W.keepIn K (.ref f8) = true)
    (a9 : PySem.W.nsIn K mainGlobals "_law_spoilt" = some (some (.ref f9)))
    (l9 : K.lookup f9 = some ⟨oc9, od9, .func (PySem.W.fnOf "_law_spoilt" "_law_spoilt" (defArgs s_law_spoilt) (defBody s_law_spoilt) (defScope s_law_spoilt) .none kV9 dc9 pm9 an9 cd9 ct9), sl9⟩)
    (c9 : PySem.W.codeIn K cd9 "_law_spoilt" = true)
    (k9 : PySem.W.keepIn K (.ref f9) = true)
    (a10 : PySem.W.nsIn K mainGlobals "_law_due" = some (some (.ref f10)))
    (l10 : K.lookup f10 = some ⟨oc10, od10, .func (PySem.W.fnOf "_law_due" "_law_due" (defArgs s_law_due) (defBody s_law_due) (defScope s_law_due) .none kV10 dc10 pm10 an10 cd10 ct10), sl10⟩)
    (c10 : PySem.W.codeIn K cd10 "_law_due" = true)
    (k10 : PySem.W.keepIn K (.ref f10) = true)
    (a11 : PySem.W.nsIn K mainGlobals "_law_right" = some (some (.ref f11)))
    (l11 : K.lookup f11 = some ⟨oc11, od11, .func (PySem.W.fnOf "_law_right" "_law_right" (defArgs s_law_right) (defBody s_law_right) (defScope s_law_right) .none kV11 dc11 pm11 an11 cd11 ct11), sl11⟩)
    (c11 : PySem.W.codeIn K cd11 "_law_right" = true)
    (k11 : PySem.W.keepIn K (.ref f11) = true)
    (a12 : PySem.W.nsIn K mainGlobals "law" = some (some (.ref f12)))
    (l12 : K.lookup f12 = some ⟨oc12, od12, .func (PySem.W.fnOf "law" "law" (defArgs s_law) (defBody s_law) (defScope s_law) .none kV12 dc12 pm12 an12 cd12 ct12), sl12⟩)
    (c12 : PySem.W.codeIn K cd12 "law" = true)
    (k12 : PySem.W.keepIn K (.ref f12) = true)
    (y_FIGURES : PySem.W.nsIn K mainGlobals "FIGURES" = some (some (.str "0123456789" t_FIGURES)))
    (y_HEADINGS : PySem.W.nsIn K mainGlobals "HEADINGS" = some (some (.str "enws" t_HEADINGS)))
    (y_TURNS : PySem.W.nsIn K mainGlobals "TURNS" = some (some (.str "lr" t_TURNS)))
    (z_sum : PySem.W.nsIn K mainGlobals "sum" = some none)
    (z_len : PySem.W.nsIn K mainGlobals "len" = some none)
    (z_range : PySem.W.nsIn K mainGlobals "range" = some none)
    (z_str : PySem.W.nsIn K mainGlobals "str" = some none)
    (z_int : PySem.W.nsIn K mainGlobals "int" = some none)
    (z_abs : PySem.W.nsIn K mainGlobals "abs" = some none)
    (z_isinstance : PySem.W.nsIn K mainGlobals "isinstance" = some none)
    (z_tuple : PySem.W.nsIn K mainGlobals "tuple" = some none)
    (z_bool : PySem.W.nsIn K mainGlobals "bool" = some none)
    (z_max : PySem.W.nsIn K mainGlobals "max" = some none)
    (z_ValueError : PySem.W.nsIn K mainGlobals "ValueError" = some none)
    {kB kN kS kA kL fN0 : Addr}
    {ocNn kVNn dcNn pmNn cdNn ctNn : Value} {odNn anNn : Option Addr} {slNn : Array (Option Value)}
    {nm0 q0 : Str} {N0 : Addr} {bs0 bm0 sub0 : List Value} {sn0 : List Str} {ab0 : Bool} {col0 : Option Bool} {dd0 : Option Addr} {k00 k01 k02 k03 k05 : Option Value}
    (e_nNoBox : PySem.W.nsIn K mainGlobals "NoBox" = some (some (.ref kB)))
    (e_nNoNumber : PySem.W.nsIn K mainGlobals "NoNumber" = some (some (.ref kN)))
    (e_nNoSpiral : PySem.W.nsIn K mainGlobals "NoSpiral" = some (some (.ref kS)))
    (e_nNoAsk : PySem.W.nsIn K mainGlobals "NoAsk" = some (some (.ref kA)))
    (e_n0 : PySem.W.nsIn K mainGlobals "LaidError" = some (some (.ref kL)))
    (e_iC : PySem.W.findIn K (.ref kN) "__init__" = some (some (.ref fN0)))
    (e_lI : K.lookup fN0 = some ⟨ocNn, odNn, .func (PySem.W.fnOf "__init__" "NoNumber.__init__" (defArgs s_noinit) (defBody s_noinit) (defScope s_noinit) .none kVNn dcNn pmNn anNn cdNn ctNn), slNn⟩)
    (e_cI : PySem.W.codeIn K cdNn "NoNumber.__init__" = true)
    (e_kI : PySem.W.keepIn K (.ref fN0) = true)
    (e_tI : PySem.W.typeIn K (.ref fN0) = some (.type "function"))
    (e_oC : K.lookup kN = some (excClassObj nm0 q0 kN N0 bs0 bm0 true sn0 sub0 ab0 col0 dd0 k00 k01 k02 k03 k05 "ValueError.__new__"))
    (e_oR : PySem.HandSPX.refsVE bm0 = true)
    (e_sa : PySem.W.findIn K (.ref kN) "__setattr__" = some (some (.builtin "object.__setattr__")))
    (e_pN : PySem.W.keepIn K (.ref kN) = true)
    (e_fN : PySem.W.findIn K (.ref kN) "number" = some none)
    (e_gS : PySem.W.specialIn K (.ref kL) "__getattribute__" = some (some (.builtin "type.__getattribute__")))
    (e_rD : PySem.W.readsIn K kL (.type "type") = true)
    (e_fc : PySem.W.findCls K (.ref kL) (.type "type") "__init__" = some (.val (.builtin "ValueError.__init__")))
    (e_hd0 : PySem.W.hasDictIn K kL = true)
    (e_ty0 : PySem.W.typeIn K (.ref kL) = some (.type "type"))
    (e_eB : PySem.W.subIn K (.ref kL) (.type "BaseException") = some true)
    (e_jn : PySem.W.specialIn K (.builtin "object.__class__") "__get__" = some (some (.builtin "getset_descriptor.__get__")))
    (e_jt : PySem.W.takesIn K (.builtin "object.__class__") = some true)
    (e_vM : PySem.W.kitMeta "ValueError" = true)
    (e_gaNoBox : PySem.W.findIn K (.ref kB) "__getattribute__" = some (some (.builtin "BaseException.__getattribute__")))
    (e_ggNoBox : PySem.W.findIn K (.ref kB) "__getattr__" = some none)
    (e_hCNoBox : PySem.W.hasDictIn K kB = true)
    (e_eCNoBox : PySem.W.subIn K (.ref kB) (.type "BaseException") = some true)
    (e_tCNoBox : PySem.W.typeIn K (.ref kB) = some (.type "type"))
    (e_jcNoBox : PySem.W.findIn K (.ref kB) "__class__" = some (some (.builtin "object.__class__")))
    (e_jmNoBox : PySem.W.mroIn K kB (.type "object") = some true)
    (e_s0NoBox : PySem.W.subIn K (.ref kB) (.ref kL) = some true)
    (e_x0NoBox : (Value.ref kB == Value.ref kL) = false)
    (e_vSNoBox : PySem.W.subIn K (.ref kB) (.type "ValueError") = some true)
    (e_stNoBox : PySem.W.findIn K (.ref kB) "__str__" = some (some (.builtin "BaseException.__str__")))
    (e_qNoBox : PySem.W.excIn K kB [.type "ValueError", .type "Exception", .type "BaseException", .type "object"] "ValueError.__new__" = true)
    (e_kCNoBox : PySem.W.keepIn K (.ref kB) = true)
    (e_xNoBoxNoNumber : (Value.ref kB == Value.ref kN) = false)
    (e_sNoBoxNoNumber : PySem.W.subIn K (.ref kB) (.ref kN) = some false)
    (e_xNoBoxNoSpiral : (Value.ref kB == Value.ref kS) = false)
    (e_sNoBoxNoSpiral : PySem.W.subIn K (.ref kB) (.ref kS) = some false)
    (e_xNoBoxNoAsk : (Value.ref kB == Value.ref kA) = false)
    (e_sNoBoxNoAsk : PySem.W.subIn K (.ref kB) (.ref kA) = some false)
    (e_gaNoNumber : PySem.W.findIn K (.ref kN) "__getattribute__" = some (some (.builtin "BaseException.__getattribute__")))
    (e_ggNoNumber : PySem.W.findIn K (.ref kN) "__getattr__" = some none)
    (e_hCNoNumber : PySem.W.hasDictIn K kN = true)
    (e_eCNoNumber : PySem.W.subIn K (.ref kN) (.type "BaseException") = some true)
    (e_tCNoNumber : PySem.W.typeIn K (.ref kN) = some (.type "type"))
    (e_jcNoNumber : PySem.W.findIn K (.ref kN) "__class__" = some (some (.builtin "object.__class__")))
    (e_jmNoNumber : PySem.W.mroIn K kN (.type "object") = some true)
    (e_s0NoNumber : PySem.W.subIn K (.ref kN) (.ref kL) = some true)
    (e_x0NoNumber : (Value.ref kN == Value.ref kL) = false)
    (e_vSNoNumber : PySem.W.subIn K (.ref kN) (.type "ValueError") = some true)
    (e_stNoNumber : PySem.W.findIn K (.ref kN) "__str__" = some (some (.builtin "BaseException.__str__")))
    (e_xNoNumberNoBox : (Value.ref kN == Value.ref kB) = false)
    (e_sNoNumberNoBox : PySem.W.subIn K (.ref kN) (.ref kB) = some false)
    (e_xNoNumberNoSpiral : (Value.ref kN == Value.ref kS) = false)
    (e_sNoNumberNoSpiral : PySem.W.subIn K (.ref kN) (.ref kS) = some false)
    (e_xNoNumberNoAsk : (Value.ref kN == Value.ref kA) = false)
    (e_sNoNumberNoAsk : PySem.W.subIn K (.ref kN) (.ref kA) = some false)
    (e_gaNoSpiral : PySem.W.findIn K (.ref kS) "__getattribute__" = some (some (.builtin "BaseException.__getattribute__")))
    (e_ggNoSpiral : PySem.W.findIn K (.ref kS) "__getattr__" = some none)
    (e_hCNoSpiral : PySem.W.hasDictIn K kS = true)
    (e_eCNoSpiral : PySem.W.subIn K (.ref kS) (.type "BaseException") = some true)
    (e_tCNoSpiral : PySem.W.typeIn K (.ref kS) = some (.type "type"))
    (e_jcNoSpiral : PySem.W.findIn K (.ref kS) "__class__" = some (some (.builtin "object.__class__")))
    (e_jmNoSpiral : PySem.W.mroIn K kS (.type "object") = some true)
    (e_s0NoSpiral : PySem.W.subIn K (.ref kS) (.ref kL) = some true)
    (e_x0NoSpiral : (Value.ref kS == Value.ref kL) = false)
    (e_vSNoSpiral : PySem.W.subIn K (.ref kS) (.type "ValueError") = some true)
    (e_stNoSpiral : PySem.W.findIn K (.ref kS) "__str__" = some (some (.builtin "BaseException.__str__")))
    (e_qNoSpiral : PySem.W.excIn K kS [.type "ValueError", .type "Exception", .type "BaseException", .type "object"] "ValueError.__new__" = true)
    (e_kCNoSpiral : PySem.W.keepIn K (.ref kS) = true)
    (e_xNoSpiralNoBox : (Value.ref kS == Value.ref kB) = false)
    (e_sNoSpiralNoBox : PySem.W.subIn K (.ref kS) (.ref kB) = some false)
    (e_xNoSpiralNoNumber : (Value.ref kS == Value.ref kN) = false)
    (e_sNoSpiralNoNumber : PySem.W.subIn K (.ref kS) (.ref kN) = some false)
    (e_xNoSpiralNoAsk : (Value.ref kS == Value.ref kA) = false)
    (e_sNoSpiralNoAsk : PySem.W.subIn K (.ref kS) (.ref kA) = some false)
    (e_gaNoAsk : PySem.W.findIn K (.ref kA) "__getattribute__" = some (some (.builtin "BaseException.__getattribute__")))
    (e_ggNoAsk : PySem.W.findIn K (.ref kA) "__getattr__" = some none)
    (e_hCNoAsk : PySem.W.hasDictIn K kA = true)
    (e_eCNoAsk : PySem.W.subIn K (.ref kA) (.type "BaseException") = some true)
    (e_tCNoAsk : PySem.W.typeIn K (.ref kA) = some (.type "type"))
    (e_jcNoAsk : PySem.W.findIn K (.ref kA) "__class__" = some (some (.builtin "object.__class__")))
    (e_jmNoAsk : PySem.W.mroIn K kA (.type "object") = some true)
    (e_s0NoAsk : PySem.W.subIn K (.ref kA) (.ref kL) = some true)
    (e_x0NoAsk : (Value.ref kA == Value.ref kL) = false)
    (e_vSNoAsk : PySem.W.subIn K (.ref kA) (.type "ValueError") = some true)
    (e_stNoAsk : PySem.W.findIn K (.ref kA) "__str__" = some (some (.builtin "BaseException.__str__")))
    (e_qNoAsk : PySem.W.excIn K kA [.type "ValueError", .type "Exception", .type "BaseException", .type "object"] "ValueError.__new__" = true)
    (e_kCNoAsk : PySem.W.keepIn K (.ref kA) = true)
    (e_xNoAskNoBox : (Value.ref kA == Value.ref kB) = false)
    (e_sNoAskNoBox : PySem.W.subIn K (.ref kA) (.ref kB) = some false)
    (e_xNoAskNoNumber : (Value.ref kA == Value.ref kN) = false)
    (e_sNoAskNoNumber : PySem.W.subIn K (.ref kA) (.ref kN) = some false)
    (e_xNoAskNoSpiral : (Value.ref kA == Value.ref kS) = false)
    (e_sNoAskNoSpiral : PySem.W.subIn K (.ref kA) (.ref kS) = some false)
    : ∃ fd : FuncData, (∀ (s : Shared) (v : Value), BindsTo s fd ⟨[v], []⟩ [("script", v)]) ∧ ∀ base : Heap, K.In base → base.Ns mainGlobals mg → FnOk l.prog w K mg base (L2.CX l.prog w) 5 fa fd ["script"] (conc K spLaw) := by
  have e := hfa.symm.trans (PySem.W.mg_of X G a12)
  cases e
  have F0 := fun_mk (st := s_is_number_word) l0 c0 k0
  have b0 := F0.binds (ps := ["word"]) fun _ _ _ _ _ _ us hl => match us, hl with | [_], _ => rfl
  have F1 := fun_mk (st := s_read_spiral) l1 c1 k1
  have b1 := F1.binds (ps := ["text"]) fun _ _ _ _ _ _ us hl => match us, hl with | [_], _ => rfl
  have F2 := fun_mk (st := s_law_mix) l2 c2 k2
  have b2 := F2.binds (ps := ["cell", "k"]) fun _ _ _ _ _ _ us hl => match us, hl with | [_, _], _ => rfl
  have F3 := fun_mk (st := s_law_deck) l3 c3 k3
  have b3 := F3.binds (ps := ["script"]) fun _ _ _ _ _ _ us hl => match us, hl with | [_], _ => rfl
  have F4 := fun_mk (st := s_law_next) l4 c4 k4
  have b4 := F4.binds (ps := ["deck", "many"]) fun _ _ _ _ _ _ us hl => match us, hl with | [_, _], _ => rfl
  have F5 := fun_mk (st := s_law_great) l5 c5 k5
  have b5 := F5.binds (ps := ["deck", "most"]) fun _ _ _ _ _ _ us hl => match us, hl with | [_, _], _ => rfl
  have F6 := fun_mk (st := s_law_spiral) l6 c6 k6
  have b6 := F6.binds (ps := ["deck"]) fun _ _ _ _ _ _ us hl => match us, hl with | [_], _ => rfl
  have F7 := fun_mk (st := s_law_kind) l7 c7 k7
  have b7 := F7.binds (ps := ["caught"]) fun _ _ _ _ _ _ us hl => match us, hl with | [_], _ => rfl
  have F8 := fun_mk (st := s_law_sign) l8 c8 k8
  have b8 := F8.binds (ps := ["deck"]) fun _ _ _ _ _ _ us hl => match us, hl with | [_], _ => rfl
  have F9 := fun_mk (st := s_law_spoilt) l9 c9 k9
  have b9 := F9.binds (ps := ["deck", "text"]) fun _ _ _ _ _ _ us hl => match us, hl with | [_, _], _ => rfl
  have F10 := fun_mk (st := s_law_due) l10 c10 k10
  have b10 := F10.binds (ps := ["text"]) fun _ _ _ _ _ _ us hl => match us, hl with | [_], _ => rfl
  have F11 := fun_mk (st := s_law_right) l11 c11 k11
  have b11 := F11.binds (ps := ["text"]) fun _ _ _ _ _ _ us hl => match us, hl with | [_], _ => rfl
  have F12 := fun_mk (st := s_law) l12 c12 k12
  have FI_ := fun_mk (st := s_noinit) e_lI e_cI e_kI
  have bI_ := FI_.binds (ps := ["self", "number"]) fun _ _ _ _ _ _ us hl => match us, hl with | [_, _], _ => rfl
  have noT : NoTxt K mg s_noinit kN kL := ⟨⟨fN0, _, FI_, e_iC, e_tI, bI_⟩, PySem.W.mg_of X G e_nNoNumber, PySem.W.mg_of X G e_n0, PySem.W.mg_none_of X G z_str, ⟨⟨_, _, _, _, _, _, _, _, _, _, _, _, _, _, _, e_oC, e_oR⟩, e_sa, e_eCNoNumber, e_tCNoNumber, e_pN⟩, e_fN, e_gS, e_rD, e_fc, ⟨e_gaNoNumber, e_ggNoNumber, e_eCNoNumber, e_hCNoNumber⟩, PySem.W.exm_ref e_eB e_hd0 e_ty0 e_s0NoNumber, e_jcNoNumber, e_jn, e_jt, e_jmNoNumber⟩
  have T : Txt K mg (cc4 kB kN kS kA) kL := {
    no := noT
    k_NoBox := PySem.W.mg_of X G e_nNoBox
    k_NoNumber := PySem.W.mg_of X G e_nNoNumber
    k_NoSpiral := PySem.W.mg_of X G e_nNoSpiral
    k_NoAsk := PySem.W.mg_of X G e_nNoAsk
    o_NoBox := ⟨PySem.W.mg_of X G e_nNoBox, e_qNoBox, e_kCNoBox, e_eCNoBox, e_tCNoBox⟩
    o_NoSpiral := ⟨PySem.W.mg_of X G e_nNoSpiral, e_qNoSpiral, e_kCNoSpiral, e_eCNoSpiral, e_tCNoSpiral⟩
    o_NoAsk := ⟨PySem.W.mg_of X G e_nNoAsk, e_qNoAsk, e_kCNoAsk, e_eCNoAsk, e_tCNoAsk⟩
    x_is := fun i => match i with | 0 => ⟨⟨e_gaNoBox, e_ggNoBox, e_eCNoBox, e_hCNoBox⟩, e_jcNoBox, e_jn, e_jt, e_jmNoBox⟩ | 1 => ⟨⟨e_gaNoNumber, e_ggNoNumber, e_eCNoNumber, e_hCNoNumber⟩, e_jcNoNumber, e_jn, e_jt, e_jmNoNumber⟩ | 2 => ⟨⟨e_gaNoSpiral, e_ggNoSpiral, e_eCNoSpiral, e_hCNoSpiral⟩, e_jcNoSpiral, e_jn, e_jt, e_jmNoSpiral⟩ | 3 => ⟨⟨e_gaNoAsk, e_ggNoAsk, e_eCNoAsk, e_hCNoAsk⟩, e_jcNoAsk, e_jn, e_jt, e_jmNoAsk⟩
    x_k := fun i j => match i, j with | 0, 0 => kit_self | 0, 1 => kit_ref e_xNoBoxNoNumber e_hCNoNumber e_tCNoNumber e_sNoBoxNoNumber | 0, 2 => kit_ref e_xNoBoxNoSpiral e_hCNoSpiral e_tCNoSpiral e_sNoBoxNoSpiral | 0, 3 => kit_ref e_xNoBoxNoAsk e_hCNoAsk e_tCNoAsk e_sNoBoxNoAsk | 1, 0 => kit_ref e_xNoNumberNoBox e_hCNoBox e_tCNoBox e_sNoNumberNoBox | 1, 1 => kit_self | 1, 2 => kit_ref e_xNoNumberNoSpiral e_hCNoSpiral e_tCNoSpiral e_sNoNumberNoSpiral | 1, 3 => kit_ref e_xNoNumberNoAsk e_hCNoAsk e_tCNoAsk e_sNoNumberNoAsk | 2, 0 => kit_ref e_xNoSpiralNoBox e_hCNoBox e_tCNoBox e_sNoSpiralNoBox | 2, 1 => kit_ref e_xNoSpiralNoNumber e_hCNoNumber e_tCNoNumber e_sNoSpiralNoNumber | 2, 2 => kit_self | 2, 3 => kit_ref e_xNoSpiralNoAsk e_hCNoAsk e_tCNoAsk e_sNoSpiralNoAsk | 3, 0 => kit_ref e_xNoAskNoBox e_hCNoBox e_tCNoBox e_sNoAskNoBox | 3, 1 => kit_ref e_xNoAskNoNumber e_hCNoNumber e_tCNoNumber e_sNoAskNoNumber | 3, 2 => kit_ref e_xNoAskNoSpiral e_hCNoSpiral e_tCNoSpiral e_sNoAskNoSpiral | 3, 3 => kit_self
    x_0 := fun i => match i with | 0 => kit_ref e_x0NoBox e_hd0 e_ty0 e_s0NoBox | 1 => kit_ref e_x0NoNumber e_hd0 e_ty0 e_s0NoNumber | 2 => kit_ref e_x0NoSpiral e_hd0 e_ty0 e_s0NoSpiral | 3 => kit_ref e_x0NoAsk e_hd0 e_ty0 e_s0NoAsk
    x_v := fun i => match i with | 0 => kit_blt e_vM e_vSNoBox | 1 => kit_blt e_vM e_vSNoNumber | 2 => kit_blt e_vM e_vSNoSpiral | 3 => kit_blt e_vM e_vSNoAsk
    x_e := fun i => match i with | 0 => PySem.W.exm_ref e_eB e_hd0 e_ty0 e_s0NoBox | 1 => PySem.W.exm_ref e_eB e_hd0 e_ty0 e_s0NoNumber | 2 => PySem.W.exm_ref e_eB e_hd0 e_ty0 e_s0NoSpiral | 3 => PySem.W.exm_ref e_eB e_hd0 e_ty0 e_s0NoAsk
    x_s := fun i => match i with | 0 => e_stNoBox | 1 => e_stNoNumber | 2 => e_stNoSpiral | 3 => e_stNoAsk
    d_is_number_word := ⟨_, _, F0, PySem.W.mg_of X G a0, b0⟩
    d_read_spiral := ⟨_, _, F1, PySem.W.mg_of X G a1, b1⟩
    d_law_mix := ⟨_, _, F2, PySem.W.mg_of X G a2, b2⟩
    d_law_deck := ⟨_, _, F3, PySem.W.mg_of X G a3, b3⟩
    d_law_next := ⟨_, _, F4, PySem.W.mg_of X G a4, b4⟩
    d_law_great := ⟨_, _, F5, PySem.W.mg_of X G a5, b5⟩
    d_law_spiral := ⟨_, _, F6, PySem.W.mg_of X G a6, b6⟩
    d_law_kind := ⟨_, _, F7, PySem.W.mg_of X G a7, b7⟩
    d_law_sign := ⟨_, _, F8, PySem.W.mg_of X G a8, b8⟩
    d_law_spoilt := ⟨_, _, F9, PySem.W.mg_of X G a9, b9⟩
    d_law_due := ⟨_, _, F10, PySem.W.mg_of X G a10, b10⟩
    d_law_right := ⟨_, _, F11, PySem.W.mg_of X G a11, b11⟩
    c_FIGURES := ⟨_, PySem.W.mg_of X G y_FIGURES⟩
    c_HEADINGS := ⟨_, PySem.W.mg_of X G y_HEADINGS⟩
    c_TURNS := ⟨_, PySem.W.mg_of X G y_TURNS⟩
    z_sum := PySem.W.mg_none_of X G z_sum
    z_len := PySem.W.mg_none_of X G z_len
    z_range := PySem.W.mg_none_of X G z_range
    z_str := PySem.W.mg_none_of X G z_str
    z_int := PySem.W.mg_none_of X G z_int
    z_abs := PySem.W.mg_none_of X G z_abs
    z_isinstance := PySem.W.mg_none_of X G z_isinstance
    z_tuple := PySem.W.mg_none_of X G z_tuple
    z_bool := PySem.W.mg_none_of X G z_bool
    z_max := PySem.W.mg_none_of X G z_max
    z_ValueError := PySem.W.mg_none_of X G z_ValueError }
  exact ⟨_, fun s v => .of_eq rfl, fun base _ _ => FnOk.ofA F12 sc_law (by rintro _ _ _ _ ⟨_, rfl, _⟩; rfl) (run_law T)⟩
end L3
open PySem PySem.W PyProof.Rows in
set_option maxRecDepth 100000 in
set_option maxHeartbeats 0 in
theorem PySem.Challenge.cw_laidround_k02_texts_of_no_spirals_holds : PySem.Challenge.rw_laidround_k02_texts_of_no_spirals.Holds := by
  w_on; o_law; k_head; (case hw => w_witness2)
  k_fill
  refine L3.walk (l := PySem.Challenge.rw_laidround_k02_texts_of_no_spirals) (k := 5) rfl rfl ⟨rfl, by decide, by decide⟩ (fun w h Y => PySem.W.kIn_of Y) ?F
  case F =>
    intro w mg fa h KX G hmg
    refine' L3.all_mk KX G hmg ?a0 ?l0 ?c0 ?k0 ?a1 ?l1 ?c1 ?k1 ?a2 ?l2 ?c2 ?k2 ?a3 ?l3 ?c3 ?k3 ?a4 ?l4 ?c4 ?k4 ?a5 ?l5 ?c5 ?k5 ?a6 ?l6 ?c6 ?k6 ?a7 ?l7 ?c7 ?k7 ?a8 ?l8 ?c8 ?k8 ?a9 ?l9 ?c9 ?k9 ?a10 ?l10 ?c10 ?k10 ?a11 ?l11 ?c11 ?k11 ?a12 ?l12 ?c12 ?k12 ?y_FIGURES ?y_HEADINGS ?y_TURNS ?z_sum ?z_len ?z_range ?z_str ?z_int ?z_abs ?z_isinstance ?z_tuple ?z_bool ?z_max ?z_ValueError ?e_nNoBox ?e_nNoNumber ?e_nNoSpiral ?e_nNoAsk ?e_n0 ?e_iC ?e_lI ?e_cI ?e_kI ?e_tI ?e_oC ?e_oR ?e_sa ?e_pN ?e_fN ?e_gS ?e_rD ?e_fc ?e_hd0 ?e_ty0 ?e_eB ?e_jn ?e_jt ?e_vM ?e_gaNoBox ?e_ggNoBox ?e_hCNoBox ?e_eCNoBox ?e_tCNoBox ?e_jcNoBox ?e_jmNoBox ?e_s0NoBox ?e_x0NoBox ?e_vSNoBox ?e_stNoBox ?e_qNoBox ?e_kCNoBox ?e_xNoBoxNoNumber ?e_sNoBoxNoNumber ?e_xNoBoxNoSpiral ?e_sNoBoxNoSpiral ?e_xNoBoxNoAsk ?e_sNoBoxNoAsk ?e_gaNoNumber ?e_ggNoNumber ?e_hCNoNumber ?e_eCNoNumber ?e_tCNoNumber ?e_jcNoNumber ?e_jmNoNumber ?e_s0NoNumber ?e_x0NoNumber ?e_vSNoNumber ?e_stNoNumber ?e_xNoNumberNoBox ?e_sNoNumberNoBox ?e_xNoNumberNoSpiral ?e_sNoNumberNoSpiral ?e_xNoNumberNoAsk ?e_sNoNumberNoAsk ?e_gaNoSpiral ?e_ggNoSpiral ?e_hCNoSpiral ?e_eCNoSpiral ?e_tCNoSpiral ?e_jcNoSpiral ?e_jmNoSpiral ?e_s0NoSpiral ?e_x0NoSpiral ?e_vSNoSpiral ?e_stNoSpiral ?e_qNoSpiral ?e_kCNoSpiral ?e_xNoSpiralNoBox ?e_sNoSpiralNoBox ?e_xNoSpiralNoNumber ?e_sNoSpiralNoNumber ?e_xNoSpiralNoAsk ?e_sNoSpiralNoAsk ?e_gaNoAsk ?e_ggNoAsk ?e_hCNoAsk ?e_eCNoAsk ?e_tCNoAsk ?e_jcNoAsk ?e_jmNoAsk ?e_s0NoAsk ?e_x0NoAsk ?e_vSNoAsk ?e_stNoAsk ?e_qNoAsk ?e_kCNoAsk ?e_xNoAskNoBox ?e_sNoAskNoBox ?e_xNoAskNoNumber ?e_sNoAskNoNumber ?e_xNoAskNoSpiral ?e_sNoAskNoSpiral
    (case a0 => k_is)
    (case l0 => k_is)
    (case c0 => k_is)
    (case k0 => k_is)
    (case a1 => k_is)
    (case l1 => k_is)
    (case c1 => k_is)
    (case k1 => k_is)
    (case a2 => k_is)
    (case l2 => k_is)
    (case c2 => k_is)
    (case k2 => k_is)
    (case a3 => k_is)
    (case l3 => k_is)
    (case c3 => k_is)
    (case k3 => k_is)
    (case a4 => k_is)
    (case l4 => k_is)
    (case c4 => k_is)
    (case k4 => k_is)
    (case a5 => k_is)
    (case l5 => k_is)
    (case c5 => k_is)
    (case k5 => k_is)
    (case a6 => k_is)
    (case l6 => k_is)
    (case c6 => k_is)
    (case k6 => k_is)
    (case a7 => k_is)
    (case l7 => k_is)
    (case c7 => k_is)
    (case k7 => k_is)
    (case a8 => k_is)
    (case l8 => k_is)
    (case c8 => k_is)
    (case k8 => k_is)
    (case a9 => k_is)
    (case l9 => k_is)
    (case c9 => k_is)
    (case k9 => k_is)
    (case a10 => k_is)
    (case l10 => k_is)
    (case c10 => k_is)
    (case k10 => k_is)
    (case a11 => k_is)
    (case l11 => k_is)
    (case c11 => k_is)
    (case k11 => k_is)
    (case a12 => k_is)
    (case l12 => k_is)
    (case c12 => k_is)
    (case k12 => k_is)
    (case y_FIGURES => k_is)
    (case y_HEADINGS => k_is)
    (case y_TURNS => k_is)
    (case z_sum => k_is)
    (case z_len => k_is)
    (case z_range => k_is)
    (case z_str => k_is)
    (case z_int => k_is)
    (case z_abs => k_is)
    (case z_isinstance => k_is)
    (case z_tuple => k_is)
    (case z_bool => k_is)
    (case z_max => k_is)
    (case z_ValueError => k_is)
    (case e_nNoBox => k_is)
    (case e_nNoNumber => k_is)
    (case e_nNoSpiral => k_is)
    (case e_nNoAsk => k_is)
    (case e_n0 => k_is)
    (case e_iC => k_is)
    (case e_lI => k_is)
    (case e_cI => k_is)
    (case e_kI => k_is)
    (case e_tI => k_is)
    (case e_oC => k_is)
    (case e_oR => decide +kernel)
    (case e_sa => k_is)
    (case e_pN => k_is)
    (case e_fN => k_is)
    (case e_gS => k_is)
    (case e_rD => k_is)
    (case e_fc => k_is)
    (case e_hd0 => k_is)
    (case e_ty0 => k_is)
    (case e_eB => k_is)
    (case e_jn => k_is)
    (case e_jt => k_is)
    (case e_vM => decide +kernel)
    (case e_gaNoBox => k_is)
    (case e_ggNoBox => k_is)
    (case e_hCNoBox => k_is)
    (case e_eCNoBox => k_is)
    (case e_tCNoBox => k_is)
    (case e_jcNoBox => k_is)
    (case e_jmNoBox => k_is)
    (case e_s0NoBox => k_is)
    (case e_x0NoBox => rfl)
    (case e_vSNoBox => k_is)
    (case e_stNoBox => k_is)
    (case e_qNoBox => k_exc)
    (case e_kCNoBox => k_is)
    (case e_xNoBoxNoNumber => rfl)
    (case e_sNoBoxNoNumber => k_is)
    (case e_xNoBoxNoSpiral => rfl)
    (case e_sNoBoxNoSpiral => k_is)
    (case e_xNoBoxNoAsk => rfl)
    (case e_sNoBoxNoAsk => k_is)
    (case e_gaNoNumber => k_is)
    (case e_ggNoNumber => k_is)
    (case e_hCNoNumber => k_is)
    (case e_eCNoNumber => k_is)
    (case e_tCNoNumber => k_is)
    (case e_jcNoNumber => k_is)
    (case e_jmNoNumber => k_is)
    (case e_s0NoNumber => k_is)
    (case e_x0NoNumber => rfl)
    (case e_vSNoNumber => k_is)
    (case e_stNoNumber => k_is)
    (case e_xNoNumberNoBox => rfl)
    (case e_sNoNumberNoBox => k_is)
    (case e_xNoNumberNoSpiral => rfl)
    (case e_sNoNumberNoSpiral => k_is)
    (case e_xNoNumberNoAsk => rfl)
    (case e_sNoNumberNoAsk => k_is)
    (case e_gaNoSpiral => k_is)
    (case e_ggNoSpiral => k_is)
    (case e_hCNoSpiral => k_is)
    (case e_eCNoSpiral => k_is)
    (case e_tCNoSpiral => k_is)
    (case e_jcNoSpiral => k_is)
    (case e_jmNoSpiral => k_is)
    (case e_s0NoSpiral => k_is)
    (case e_x0NoSpiral => rfl)
    (case e_vSNoSpiral => k_is)
    (case e_stNoSpiral => k_is)
    (case e_qNoSpiral => k_exc)
    (case e_kCNoSpiral => k_is)
    (case e_xNoSpiralNoBox => rfl)
    (case e_sNoSpiralNoBox => k_is)
    (case e_xNoSpiralNoNumber => rfl)
    (case e_sNoSpiralNoNumber => k_is)
    (case e_xNoSpiralNoAsk => rfl)
    (case e_sNoSpiralNoAsk => k_is)
    (case e_gaNoAsk => k_is)
    (case e_ggNoAsk => k_is)
    (case e_hCNoAsk => k_is)
    (case e_eCNoAsk => k_is)
    (case e_tCNoAsk => k_is)
    (case e_jcNoAsk => k_is)
    (case e_jmNoAsk => k_is)
    (case e_s0NoAsk => k_is)
    (case e_x0NoAsk => rfl)
    (case e_vSNoAsk => k_is)
    (case e_stNoAsk => k_is)
    (case e_qNoAsk => k_exc)
    (case e_kCNoAsk => k_is)
    (case e_xNoAskNoBox => rfl)
    (case e_sNoAskNoBox => k_is)
    (case e_xNoAskNoNumber => rfl)
    (case e_sNoAskNoNumber => k_is)
    (case e_xNoAskNoSpiral => rfl)
    (case e_sNoAskNoSpiral => k_is)
#print axioms PySem.Challenge.cw_laidround_k02_texts_of_no_spirals_holds
