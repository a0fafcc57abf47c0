import PyProof.Rows.All
import HandS.ForMost
import HandS.ForExc
import HandS.CallSlots
import HandS.TryMany
import HandS.IsInst
import HandS.ExcField
import HandS.ExcInit
import HandS.Lambda
import HandS.EndTab
import HandS.Zip
import HandS.TupAny
import HandS.Style
import HandS.Conv
import HandS.SortInts
import HandS.SortRule
import HandS.RevRange
import HandS.NoneIn
import HandS.Sort
import KE.KDictZip
import HandS.Keys
import HandS.Defaults
import HandS.LawCells
import HandS.ExcIs
import HandS.EndBits
import PyProof.ReprRoads
import HandS.Iter
import PySem.Challenge.RW_everysheet_k39_folds_of_one_to_six_panel
set_option Elab.async false
set_option linter.all false
set_option maxRecDepth 100000
set_option maxHeartbeats 4000000
/-! Dn: denotations. What an expression of the text says, as a function of plain data. -/
namespace Dn
open PySem PySem.Spec PyProof.Rows L2

/-! ### frozen data -/
/-- a list that nobody writes any more -/
def FzL (H : Hp) (a : Addr) (vs : List V) : Prop := ∃ o, H a = some (.frz o (.lst vs))
mutual
def Fp (K : PySem.W.Frag) (H : Hp) : PyData → V → Prop
  | .none, v => v = .non
  | .bool b, v => v = .bl b
  | .int i, v => v = .int i
  | .str x, v => v = .str x
  | .tuple ds, v => ∃ a vs, v = .ref a ∧ SqT K H a vs ∧ FpL K H ds vs
  | .list ds, v => ∃ a vs, v = .ref a ∧ FzL H a vs ∧ FpL K H ds vs
  | .dict kvs, v => kvs = [] ∧ ∃ a o, v = .ref a ∧ H a = some (.frz o (.dK []))
def FpL (K : PySem.W.Frag) (H : Hp) : List PyData → List V → Prop
  | [], vs => vs = []
  | d :: ds, vs => ∃ v r, vs = v :: r ∧ Fp K H d v ∧ FpL K H ds r
end
/-- what is never written -/
def imm : HO → Bool
  | .tup _ => true
  | .frz _ _ => true
  | .rng _ _ => true
  | .ext _ => true
  | .met _ _ => true
  | _ => false
def Im (H H' : Hp) : Prop := ∀ a o, H a = some o → imm o = true → H' a = some o
def Ex (H H' : Hp) : Prop := ∀ a o, H a = some o → H' a = some o
variable {K : PySem.W.Frag} {H H' H1 H2 : Hp} {a : Addr} {vs : List V} {x : PyData} {v : V}
theorem Im.refl : Im H H := fun _ _ h _ => h
theorem Im.trans (p : Im H H1) (q : Im H1 H2) : Im H H2 := fun a o h i => q a o (p a o h i) i
theorem Ex.im (p : Ex H H') : Im H H' := fun a o h _ => p a o h
theorem Ex.refl : Ex H H := fun _ _ h => h
theorem Ex.trans (p : Ex H H1) (q : Ex H1 H2) : Ex H H2 := fun a o h => q a o (p a o h)
theorem Ex.new {o : HO} (h : H a = none) : Ex H (upd H a o) := fun b u e => by
  rw [upd_ne (ne_of_none e h)]; exact e
theorem FzL.rd (h : FzL H a vs) : Rd H a (.lst vs) := .inr h
theorem sqT_im (i : Im H H') (h : SqT K H a vs) : SqT K H' a vs := by
  rcases h with (h | ⟨o, h⟩) | h
  · exact .inl (.inl (i _ _ h rfl))
  · exact .inl (.inr ⟨o, i _ _ h rfl⟩)
  · exact .inr h
theorem FzL.im (i : Im H H') (h : FzL H a vs) : FzL H' a vs := h.imp fun o h => i _ _ h rfl
mutual
theorem Fp.im (i : Im H H') : ∀ (d : PyData) (v : V), Fp K H d v → Fp K H' d v
  | .none, _, h => h
  | .bool _, _, h => h
  | .int _, _, h => h
  | .str _, _, h => h
  | .tuple ds, _, ⟨a, vs, e, h, r⟩ => ⟨a, vs, e, sqT_im i h, FpL.im i ds vs r⟩
  | .list ds, _, ⟨a, vs, e, h, r⟩ => ⟨a, vs, e, h.im i, FpL.im i ds vs r⟩
  | .dict _, _, ⟨z, a, o, e, h⟩ => ⟨z, a, o, e, i _ _ h rfl⟩
theorem FpL.im (i : Im H H') : ∀ (ds : List PyData) (vs : List V), FpL K H ds vs → FpL K H' ds vs
  | [], _, h => h
  | d :: ds, _, ⟨v, r, e, h, t⟩ => ⟨v, r, e, Fp.im i d v h, FpL.im i ds r t⟩
end
theorem FpL.len : ∀ {ds : List PyData} {vs : List V}, FpL K H ds vs → vs.length = ds.length
  | [], _, h => by rw [show _ = ([] : List V) from h]; rfl
  | d :: ds, _, ⟨v, r, e, _, t⟩ => by rw [e, List.length_cons, List.length_cons, FpL.len t]
theorem FpL.get : ∀ {ds : List PyData} {vs : List V} {i : Nat} {d : PyData}, FpL K H ds vs → ds[i]? = some d → ∃ v, vs[i]? = some v ∧ Fp K H d v
  | [], _, _, _, _, e => by simp at e
  | d :: ds, _, 0, _, ⟨v, r, e, h, _⟩, q => by
    simp at q; subst q; subst e; exact ⟨v, rfl, h⟩
  | d :: ds, _, i + 1, _, ⟨v, r, e, _, t⟩, q => by
    subst e
    obtain ⟨u, h1, h2⟩ := FpL.get (i := i) t (by simpa using q)
    exact ⟨u, by simpa using h1, h2⟩
theorem FpL.get' : ∀ {ds : List PyData} {vs : List V} {i : Nat} {v : V}, FpL K H ds vs → vs[i]? = some v → ∃ d, ds[i]? = some d ∧ Fp K H d v
  | [], _, _, _, h, e => by rw [show _ = ([] : List V) from h] at e; simp at e
  | d :: ds, _, 0, _, ⟨v, r, e, h, _⟩, q => by
    subst e; simp at q; subst q; exact ⟨d, rfl, h⟩
  | d :: ds, _, i + 1, _, ⟨v, r, e, _, t⟩, q => by
    subst e
    obtain ⟨u, h1, h2⟩ := FpL.get' (i := i) t (by simpa using q)
    exact ⟨u, by simpa using h1, h2⟩
theorem FpL.app : ∀ {ds es : List PyData} {vs ws : List V}, FpL K H ds vs → FpL K H es ws → FpL K H (ds ++ es) (vs ++ ws)
  | [], _, _, _, h, q => by rw [show _ = ([] : List V) from h]; exact q
  | d :: ds, _, _, _, ⟨v, r, e, h, t⟩, q => by subst e; exact ⟨v, _, rfl, h, FpL.app t q⟩
theorem FpL.one (h : Fp K H x v) : FpL K H [x] [v] := ⟨v, [], rfl, h, rfl⟩
theorem FpL.drop : ∀ {ds : List PyData} {vs : List V} (n : Nat), FpL K H ds vs → FpL K H (ds.drop n) (vs.drop n)
  | _, _, 0, h => h
  | [], _, n + 1, h => by rw [show _ = ([] : List V) from h]; exact (rfl : ([] : List V) = [])
  | d :: ds, _, n + 1, ⟨v, r, e, _, t⟩ => by subst e; exact FpL.drop n t
theorem FpL.take : ∀ {ds : List PyData} {vs : List V} (n : Nat), FpL K H ds vs → FpL K H (ds.take n) (vs.take n)
  | _, _, 0, h => (rfl : ([] : List V) = [])
  | [], _, n + 1, h => by rw [show _ = ([] : List V) from h]; exact (rfl : ([] : List V) = [])
  | d :: ds, _, n + 1, ⟨v, r, e, h, t⟩ => by subst e; exact ⟨v, _, rfl, h, FpL.take n t⟩
theorem FpL.ints : ∀ {ns : List Int}, FpL K H (ns.map PyData.int) (ns.map V.int)
  | [] => (rfl : ([] : List V) = [])
  | n :: ns => ⟨.int n, ns.map V.int, rfl, (rfl : V.int n = V.int n), FpL.ints⟩
theorem FpL.ofInts : ∀ {ns : List Int} {vs : List V}, FpL K H (ns.map PyData.int) vs → vs = ns.map V.int
  | [], _, h => h
  | n :: ns, _, ⟨v, r, e, h, t⟩ => by
    rw [e, FpL.ofInts t, show v = V.int n from h]; rfl
theorem FpL.set : ∀ {ds : List PyData} {vs : List V} (i : Nat), FpL K H ds vs → Fp K H x v → FpL K H (ds.set i x) (vs.set i v)
  | [], _, _, h, _ => by rw [show _ = ([] : List V) from h]; exact (rfl : ([] : List V) = [])
  | d :: ds, _, 0, ⟨v, r, e, h, t⟩, q => by subst e; exact ⟨_, _, rfl, q, t⟩
  | d :: ds, _, i + 1, ⟨v, r, e, h, t⟩, q => by subst e; exact ⟨v, _, rfl, h, FpL.set i t q⟩
theorem FpL.erase : ∀ {ds : List PyData} {vs : List V} (i : Nat), FpL K H ds vs → FpL K H (ds.eraseIdx i) (vs.eraseIdx i)
  | [], _, _, h => by rw [show _ = ([] : List V) from h]; exact (rfl : ([] : List V) = [])
  | d :: ds, _, 0, ⟨v, r, e, h, t⟩ => by subst e; exact t
  | d :: ds, _, i + 1, ⟨v, r, e, h, t⟩ => by subst e; exact ⟨v, _, rfl, h, FpL.erase i t⟩
theorem FpL.rev : ∀ {ds : List PyData} {vs : List V}, FpL K H ds vs → FpL K H ds.reverse vs.reverse
  | [], _, h => by rw [show _ = ([] : List V) from h]; exact (rfl : ([] : List V) = [])
  | d :: ds, _, ⟨v, r, e, h, t⟩ => by
    subst e
    rw [List.reverse_cons, List.reverse_cons]
    exact FpL.app (FpL.rev t) (FpL.one h)
theorem FpL.dropLast {ds : List PyData} (h : FpL K H ds vs) : FpL K H ds.dropLast vs.dropLast := by
  rw [List.dropLast_eq_take, List.dropLast_eq_take, FpL.len h]
  exact FpL.take _ h
theorem FpL.mem : ∀ {ds : List PyData} {vs : List V}, FpL K H ds vs → ∀ v ∈ vs, ∃ d ∈ ds, Fp K H d v
  | [], _, h => by rw [show _ = ([] : List V) from h]; intro v hv; cases hv
  | d :: ds, _, ⟨v, r, e, h, t⟩ => by
    subst e; intro u hu
    rcases List.mem_cons.mp hu with rfl | hu
    · exact ⟨d, List.mem_cons_self, h⟩
    · obtain ⟨d', h1, h2⟩ := FpL.mem t u hu; exact ⟨d', List.mem_cons_of_mem _ h1, h2⟩

/-! ### what is owned while it is written -/
inductive Ow where
  | lst (xs : List PyData)
  | dct (kvs : List (PyData × PyData))
  | deck (ks : Str × Str × Str) (cells : List Int) (mixed draws : Int)
def keyD : Key → PyData
  | .inl i => .int i
  | .inr s => .str s
def DcR (K : PySem.W.Frag) (H : Hp) : List (PyData × PyData) → List (Key × V) → Prop
  | [], ks => ks = []
  | (k, d) :: r, ks => ∃ k' v r', ks = (k', v) :: r' ∧ k = keyD k' ∧ Fp K H d v ∧ DcR K H r r'
theorem DcR.im (i : Im H H') : ∀ (kvs : List (PyData × PyData)) (ks : List (Key × V)), DcR K H kvs ks → DcR K H' kvs ks
  | [], _, h => h
  | (k, d) :: r, _, ⟨k', v, r', e, ek, h, t⟩ => ⟨k', v, r', e, ek, Fp.im i d v h, DcR.im i r r' t⟩
def OwR (K : PySem.W.Frag) (H : Hp) : Ow → V → List Addr → Prop
  | .lst xs, v, A => ∃ a vs, v = .ref a ∧ A = [a] ∧ H a = some (.lst vs) ∧ FpL K H xs vs
  | .dct kvs, v, A => ∃ a ks, v = .ref a ∧ A = [a] ∧ H a = some (.dK ks) ∧ DcR K H kvs ks
  | .deck ks cs m t, v, A => ∃ a c, v = .ref a ∧ A = [a, c] ∧ a ≠ c ∧ H a = some (.dK [(.inr ks.1, .ref c), (.inr ks.2.1, .int m), (.inr ks.2.2, .int t)]) ∧ H c = some (.lst (cs.map .int))
/-- an owned object: written, no table -/
def wr : HO → Bool
  | .lst _ => true
  | .dK _ => true
  | .dT _ => true
  | _ => false
theorem wr_imm {o : HO} (h : wr o = true) : imm o = false := by cases o <;> first | rfl | cases h
theorem wr_tbl {o : HO} (h : wr o = true) (ps : Array Value) : o ≠ .tbl ps := by intro e; subst e; cases h
theorem OwR.wr {w : Ow} {A : List Addr} (h : OwR K H w v A) : ∀ a ∈ A, ∃ o, H a = some o ∧ wr o = true := by
  cases w with
  | lst xs =>
    obtain ⟨a, vs, _, rfl, e, _⟩ := h
    intro b hb; rw [List.mem_singleton.mp hb]; exact ⟨_, e, rfl⟩
  | dct kvs =>
    obtain ⟨a, ks, _, rfl, e, _⟩ := h
    intro b hb; rw [List.mem_singleton.mp hb]; exact ⟨_, e, rfl⟩
  | deck ks cs m t =>
    obtain ⟨a, c, _, rfl, _, e, e2⟩ := h
    intro b hb
    rcases List.mem_cons.mp hb with rfl | hb
    · exact ⟨_, e, rfl⟩
    · rw [List.mem_singleton.mp hb]; exact ⟨_, e2, rfl⟩
theorem OwR.keep {w : Ow} {A : List Addr} (h : OwR K H w v A) (i : Im H H') (k : ∀ a ∈ A, ∀ o, H a = some o → H' a = some o) : OwR K H' w v A := by
  cases w with
  | lst xs =>
    obtain ⟨a, vs, e1, rfl, e, r⟩ := h
    exact ⟨a, vs, e1, rfl, k a (by simp) _ e, FpL.im i _ _ r⟩
  | dct kvs =>
    obtain ⟨a, ks, e1, rfl, e, r⟩ := h
    exact ⟨a, ks, e1, rfl, k a (by simp) _ e, DcR.im i _ _ r⟩
  | deck ks cs m t =>
    obtain ⟨a, c, e1, rfl, ne, e, e2⟩ := h
    exact ⟨a, c, e1, rfl, ne, k a (by simp) _ e, k c (by simp) _ e2⟩
theorem OwR.nodup {w : Ow} {A : List Addr} (h : OwR K H w v A) : A.Nodup := by
  cases w with
  | lst xs => obtain ⟨a, vs, e1, rfl, _⟩ := h; simp
  | dct kvs => obtain ⟨a, vs, e1, rfl, _⟩ := h; simp
  | deck ks cs m t => obtain ⟨a, c, e1, rfl, ne, _⟩ := h; simpa using ne

/-! ### slots -/
inductive Sl where
  | un
  | d (x : PyData)
  | ow (w : Ow)
  | rng (lo hi : Int)
  | scr (ns : List Int)
  | le (w : Ow)
def ScrR (K : PySem.W.Frag) (H : Hp) (ns : List Int) (v : V) : Prop := ∃ a, v = .ref a ∧ (FzL H a (ns.map .int) ∨ SqL K (fun _ => none) a (ns.map .int))
theorem ScrR.sq {ns : List Int} (h : ScrR K H ns v) : ∃ a, v = .ref a ∧ SqL K H a (ns.map .int) := by
  obtain ⟨a, e, h | (h | h)⟩ := h
  · exact ⟨a, e, .inl h.rd⟩
  · rcases h with h | ⟨o, h⟩ <;> cases h
  · exact ⟨a, e, .inr h⟩
theorem ScrR.im {ns : List Int} (i : Im H H') (h : ScrR K H ns v) : ScrR K H' ns v := by
  obtain ⟨a, e, h | h⟩ := h
  · exact ⟨a, e, .inl (h.im i)⟩
  · exact ⟨a, e, .inr h⟩
def SlR (K : PySem.W.Frag) (H : Hp) : Sl → Option V → List Addr → Prop
  | .un, _, A => A = []
  | .d x, o, A => A = [] ∧ ∃ v, o = some v ∧ Fp K H x v
  | .ow w, o, A => ∃ v, o = some v ∧ OwR K H w v A
  | .rng lo hi, o, A => A = [] ∧ ∃ a, o = some (.ref a) ∧ H a = some (.rng lo hi)
  | .scr ns, o, A => A = [] ∧ ∃ v, o = some v ∧ ScrR K H ns v
  | .le w, o, A => ∃ v, o = some v ∧ OwR K H w v A
def SlRs (K : PySem.W.Frag) (H : Hp) : List Sl → L2.St → List (List Addr) → Prop
  | [], σ, fs => σ = [] ∧ fs = []
  | s :: ss, σ, fs => ∃ o os A As, σ = o :: os ∧ fs = A :: As ∧ SlR K H s o A ∧ SlRs K H ss os As
theorem SlR.wr {s : Sl} {o : Option V} {A : List Addr} (h : SlR K H s o A) : ∀ a ∈ A, ∃ o, H a = some o ∧ Dn.wr o = true := by
  cases s with
  | un => rw [show A = [] from h]; intro a ha; cases ha
  | d x => rw [h.1]; intro a ha; cases ha
  | ow w => obtain ⟨v, _, r⟩ := h; exact r.wr
  | rng lo hi => rw [h.1]; intro a ha; cases ha
  | scr ns => rw [h.1]; intro a ha; cases ha
  | le w => obtain ⟨v, _, r⟩ := h; exact r.wr
theorem SlR.keep {s : Sl} {o : Option V} {A : List Addr} (h : SlR K H s o A) (i : Im H H') (k : ∀ a ∈ A, ∀ o, H a = some o → H' a = some o) : SlR K H' s o A := by
  cases s with
  | un => exact h
  | d x => obtain ⟨e, v, e2, r⟩ := h; exact ⟨e, v, e2, Fp.im i _ _ r⟩
  | ow w => obtain ⟨v, e, r⟩ := h; exact ⟨v, e, r.keep i k⟩
  | rng lo hi => obtain ⟨e, a, e2, r⟩ := h; exact ⟨e, a, e2, i _ _ r rfl⟩
  | scr ns => obtain ⟨e, v, e2, r⟩ := h; exact ⟨e, v, e2, r.im i⟩
  | le w => obtain ⟨v, e, r⟩ := h; exact ⟨v, e, r.keep i k⟩
theorem SlRs.wr : ∀ {ss : List Sl} {σ : L2.St} {fs : List (List Addr)}, SlRs K H ss σ fs → ∀ a ∈ fs.flatten, ∃ o, H a = some o ∧ Dn.wr o = true
  | [], _, _, h => by rw [h.2]; intro a ha; cases ha
  | s :: ss, _, _, ⟨o, os, A, As, e1, e2, h, t⟩ => by
    subst e2; intro a ha
    rw [List.flatten_cons] at ha
    rcases List.mem_append.mp ha with ha | ha
    · exact h.wr a ha
    · exact SlRs.wr t a ha
theorem SlRs.keep (i : Im H H') : ∀ {ss : List Sl} {σ : L2.St} {fs : List (List Addr)}, SlRs K H ss σ fs → (∀ a ∈ fs.flatten, ∀ o, H a = some o → H' a = some o) → SlRs K H' ss σ fs
  | [], _, _, h, _ => h
  | s :: ss, _, _, ⟨o, os, A, As, e1, e2, h, t⟩, k => by
    subst e2
    rw [List.flatten_cons] at k
    exact ⟨o, os, A, As, e1, rfl, h.keep i fun a ha => k a (List.mem_append_left _ ha), SlRs.keep i t fun a ha => k a (List.mem_append_right _ ha)⟩
theorem SlRs.len : ∀ {ss : List Sl} {σ : L2.St} {fs : List (List Addr)}, SlRs K H ss σ fs → σ.length = ss.length ∧ fs.length = ss.length
  | [], _, _, h => by rw [h.1, h.2]; exact ⟨rfl, rfl⟩
  | s :: ss, _, _, ⟨o, os, A, As, e1, e2, _, t⟩ => by
    subst e1; subst e2
    have := SlRs.len t
    simp [this.1, this.2]
theorem SlRs.get : ∀ {ss : List Sl} {σ : L2.St} {fs : List (List Addr)} {i : Nat} {s : Sl}, SlRs K H ss σ fs → ss[i]? = some s → ∃ o A, σ[i]? = some o ∧ fs[i]? = some A ∧ SlR K H s o A
  | [], _, _, _, _, _, e => by simp at e
  | s :: ss, _, _, 0, _, ⟨o, os, A, As, e1, e2, h, t⟩, e => by
    subst e1; subst e2; simp at e; subst e; exact ⟨o, A, rfl, rfl, h⟩
  | s :: ss, _, _, i + 1, _, ⟨o, os, A, As, e1, e2, h, t⟩, e => by
    subst e1; subst e2
    obtain ⟨o', A', h1, h2, h3⟩ := SlRs.get (i := i) t (by simpa using e)
    exact ⟨o', A', by simpa using h1, by simpa using h2, h3⟩
theorem SlRs.put {s : Sl} {o : Option V} {A : List Addr} (h : SlR K H s o A) : ∀ {ss : List Sl} {σ : L2.St} {fs : List (List Addr)} (i : Nat), SlRs K H ss σ fs → SlRs K H (ss.set i s) (σ.set i o) (fs.set i A)
  | [], _, _, _, q => by rw [q.1, q.2]; exact ⟨rfl, rfl⟩
  | _ :: ss, _, _, 0, ⟨o', os, A', As, e1, e2, _, t⟩ => by
    subst e1; subst e2; exact ⟨o, os, A, As, rfl, rfl, h, t⟩
  | _ :: ss, _, _, i + 1, ⟨o', os, A', As, e1, e2, q, t⟩ => by
    subst e1; subst e2; exact ⟨o', _, A', _, rfl, rfl, q, SlRs.put h i t⟩
end Dn

set_option Elab.async false
set_option linter.all false
set_option maxRecDepth 100000
set_option maxHeartbeats 4000000
namespace Dn
open PySem PySem.Spec PyProof.Rows L2
theorem mem_flat_set {A : List Addr} {a : Addr} : ∀ {fs : List (List Addr)} {i : Nat}, a ∈ (fs.set i A).flatten → a ∈ A ∨ a ∈ fs.flatten
  | [], _, h => by simp at h
  | B :: fs, 0, h => by
    rw [List.set_cons_zero, List.flatten_cons] at h
    rcases List.mem_append.mp h with h | h
    · exact .inl h
    · exact .inr (by rw [List.flatten_cons]; exact List.mem_append_right _ h)
  | B :: fs, i + 1, h => by
    rw [List.set_cons_succ, List.flatten_cons] at h
    rcases List.mem_append.mp h with h | h
    · exact .inr (by rw [List.flatten_cons]; exact List.mem_append_left _ h)
    · rcases mem_flat_set h with h | h
      · exact .inl h
      · exact .inr (by rw [List.flatten_cons]; exact List.mem_append_right _ h)
theorem nodup_flat_set {A : List Addr} (hA : A.Nodup) : ∀ {fs : List (List Addr)} {i : Nat}, fs.flatten.Nodup → (∀ a ∈ A, a ∉ fs.flatten) → (fs.set i A).flatten.Nodup
  | [], _, _, _ => by simp
  | B :: fs, 0, h, d => by
    rw [List.flatten_cons] at h d
    rw [List.set_cons_zero, List.flatten_cons, List.nodup_append]
    obtain ⟨_, h2, _⟩ := List.nodup_append.mp h
    exact ⟨hA, h2, fun a ha b hb e => d a ha (by rw [e]; exact List.mem_append_right _ hb)⟩
  | B :: fs, i + 1, h, d => by
    rw [List.flatten_cons] at h d
    rw [List.set_cons_succ, List.flatten_cons, List.nodup_append]
    obtain ⟨h1, h2, h3⟩ := List.nodup_append.mp h
    refine ⟨h1, nodup_flat_set hA h2 fun a ha q => d a ha (List.mem_append_right _ q), fun a ha b hb e => ?_⟩
    rcases mem_flat_set hb with hb | hb
    · exact d b hb (by rw [← e]; exact List.mem_append_left _ ha)
    · exact h3 a ha b hb e
/-- the slot i's own footprint lies apart from the others' -/
theorem flat_apart {A : List Addr} {a : Addr} : ∀ {fs : List (List Addr)} {i : Nat}, fs.flatten.Nodup → fs[i]? = some A → a ∈ A → a ∉ (fs.set i []).flatten
  | [], _, _, e, _ => by simp at e
  | B :: fs, 0, h, e, m => by
    simp at e; subst e
    rw [List.flatten_cons] at h
    rw [List.set_cons_zero, List.flatten_cons, List.nil_append]
    obtain ⟨_, _, h3⟩ := List.nodup_append.mp h
    exact fun q => h3 a m a q rfl
  | B :: fs, i + 1, h, e, m => by
    rw [List.flatten_cons] at h
    obtain ⟨h1, h2, h3⟩ := List.nodup_append.mp h
    have e' : fs[i]? = some A := by simpa using e
    have hm : a ∈ fs.flatten := List.mem_flatten.mpr ⟨A, List.mem_of_getElem? e', m⟩
    rw [List.set_cons_succ, List.flatten_cons]
    intro q
    rcases List.mem_append.mp q with q | q
    · exact h3 a q a hm rfl
    · exact flat_apart h2 e' m q

/-! ### the frame and its relation -/
/-- what stays through a def's run: tables of code objects, the heap at the entry, the lent addresses, the wish about exceptions, the classes of errors by name -/
structure Fr where
  T : List (Addr × Str)
  H0 : Hp
  S0 : L2.St
  F0 : List (List Addr)
  L : List Addr
  W : WX
  cls : Str → Addr
structure ER (K : PySem.W.Frag) (C : Fr) (env : List Sl) (σ : L2.St) (H : Hp) (fs : List (List Addr)) : Prop where
  sl : SlRs K H env σ fs
  nd : fs.flatten.Nodup
  own : ∀ (i : Nat) (A : List Addr), fs[i]? = some A → ∀ a ∈ A, (C.H0 a = none ∧ ∀ w, env[i]? ≠ some (Sl.le w)) ∨ (a ∈ C.L ∧ ∃ w, env[i]? = some (Sl.le w))
  kept : ∀ a o, C.H0 a = some o → a ∉ C.L → (∀ ps, o ≠ .tbl ps) → H a = some o
  there : ∀ a, C.H0 a ≠ none → H a ≠ none
  tabs : LamX.Tabs C.T H
  le : ∀ (i : Nat) (w : Ow), env[i]? = some (Sl.le w) → σ[i]? = C.S0[i]?
  lf : ∀ (i : Nat) (w : Ow), env[i]? = some (Sl.le w) → fs[i]? = C.F0[i]?
/-- from one heap to a later one: all but what is written in M stays -/
structure Stp (M : List Addr) (H H' : Hp) : Prop where
  keep : ∀ a o, H a = some o → a ∉ M → (∀ ps, o ≠ .tbl ps) → H' a = some o
  there : ∀ a, H a ≠ none → H' a ≠ none
def Sub (fs' fs : List (List Addr)) : Prop := ∀ a ∈ fs'.flatten, a ∈ fs.flatten
section
variable {K : PySem.W.Frag} {C : Fr} {env env' : List Sl} {σ : L2.St} {H H' H1 H2 : Hp} {fs fs' fs1 fs2 : List (List Addr)} {M : List Addr}
theorem ER.ownAny (E : ER K C env σ H fs) : ∀ a ∈ fs.flatten, C.H0 a = none ∨ a ∈ C.L := fun a h => by
  obtain ⟨A, hA, ha⟩ := List.mem_flatten.mp h
  obtain ⟨i, hi⟩ := List.mem_iff_getElem?.mp hA
  rcases E.own i A hi a ha with z | z
  · exact .inl z.1
  · exact .inr z.1
theorem Sub.refl : Sub fs fs := fun _ h => h
theorem Sub.trans (p : Sub fs2 fs1) (q : Sub fs1 fs) : Sub fs2 fs := fun a h => q a (p a h)
theorem Sub.set {i : Nat} : Sub (fs.set i []) fs := fun a h => by
  rcases mem_flat_set h with h | h
  · cases h
  · exact h
theorem Stp.refl : Stp M H H := ⟨fun _ _ h _ _ => h, fun _ h => h⟩
theorem Stp.trans (p : Stp fs.flatten H H1) (q : Stp fs1.flatten H1 H2) (s : Sub fs1 fs) : Stp fs.flatten H H2 :=
  ⟨fun a o h n t => q.keep a o (p.keep a o h n t) (fun z => n (s a z)) t, fun a h => q.there a (p.there a h)⟩
theorem Stp.of_ex (e : Ex H H') : Stp M H H' := ⟨fun a o h _ _ => e a o h, fun a h => by
  cases q : H a with
  | none => exact absurd q h
  | some o => rw [e a o q]; simp⟩
theorem ER.im (E : ER K C env σ H fs) (p : Stp fs.flatten H H') : Im H H' := fun a o h i => p.keep a o h (fun z => by
    obtain ⟨u, e, w⟩ := E.sl.wr a z
    rw [h] at e; cases e
    rw [wr_imm w] at i; cases i) (fun ps e => by subst e; cases i)
theorem tabs_ex {T : List (Addr × Str)} (e : Ex H H') (t : LamX.Tabs T H) : LamX.Tabs T H' := t.ext e
/-- all that is tracked stays: the relation stays -/
theorem ER.ex (E : ER K C env σ H fs) (e : Ex H H') : ER K C env σ H' fs where
  sl := SlRs.keep e.im E.sl fun a _ o h => e a o h
  nd := E.nd
  own := E.own
  kept := fun a o h n t => e a o (E.kept a o h n t)
  there := fun a h => (Stp.of_ex (M := []) e).there a (E.there a h)
  tabs := tabs_ex e E.tabs
  le := E.le
  lf := E.lf
/-- a place that is not tracked was not tracked at the entry -/
theorem ER.fresh (E : ER K C env σ H fs) {p : Addr} (h : H p = none) : C.H0 p = none := by
  cases q : C.H0 p with
  | none => rfl
  | some o => exact absurd h (E.there p (by rw [q]; simp))
theorem ER.notIn (E : ER K C env σ H fs) {p : Addr} (h : H p = none) : p ∉ fs.flatten := fun z => by
  obtain ⟨o, e, _⟩ := E.sl.wr p z
  rw [h] at e; cases e
theorem Tabs_upd {T : List (Addr × Str)} {p : Addr} {o u : HO} (t : LamX.Tabs T H) (h : H p = some o) (w : Dn.wr o = true) : LamX.Tabs T (upd H p u) := fun q hq => by
  obtain ⟨ps, e, ok, f⟩ := t q hq
  have n1 : q.1 ≠ p := fun z => by rw [z, h] at e; cases e; cases w
  refine ⟨ps, by rw [upd_ne n1]; exact e, ok, fun pos cv hc => ?_⟩
  obtain ⟨c, e1, e2⟩ := f pos cv hc
  have n2 : c ≠ p := fun z => by rw [z, h] at e2; cases e2; cases w
  exact ⟨c, e1, by rw [upd_ne n2]; exact e2⟩
end

/-! ### results -/
inductive Rv where
  | d (x : PyData)
  | ow (w : Ow)
  | bo (i : Nat)
  | rng (lo hi : Int)
inductive Res (α : Type) where
  | ok (a : α) (env : List Sl)
  | exc (c : Str) (x : PyData) (env : List Sl)
  | bad
def Res.bind {α β : Type} (r : Res α) (k : α → List Sl → Res β) : Res β := match r with
  | .ok a e => k a e
  | .exc c x e => .exc c x e
  | .bad => .bad
abbrev De := List Sl → Res Rv
def RvR (K : PySem.W.Frag) (Hs : Hp) (σ : L2.St) (H : Hp) (fs : List (List Addr)) : Rv → V → Prop
  | .d x, v => Fp K H x v
  | .ow w, v => ∃ A, OwR K H w v A ∧ (∀ a ∈ A, a ∉ fs.flatten) ∧ ∀ a ∈ A, Hs a = none
  | .bo i, v => σ[i]? = some (some v)
  | .rng lo hi, v => ∃ a, v = .ref a ∧ H a = some (.rng lo hi)
section
variable {K : PySem.W.Frag} {C : Fr} {env env' : List Sl} {σ : L2.St} {H H' H1 H2 : Hp} {fs fs' fs1 fs2 : List (List Addr)} {v : V} {rv : Rv}
theorem RvR.step {Hs : Hp} (E : ER K C env σ H fs) (r : RvR K Hs σ H fs rv v) (p : Stp fs.flatten H H') (s : Sub fs' fs) : RvR K Hs σ H' fs' rv v := by
  have i := E.im p
  cases rv with
  | d x => exact Fp.im i x v r
  | ow w =>
    obtain ⟨A, o, n, h0⟩ := r
    refine ⟨A, o.keep i fun a ha u h => p.keep a u h (n a ha) fun ps => ?_, fun a ha z => n a ha (s a z), h0⟩
    obtain ⟨u', e, wu⟩ := o.wr a ha
    rw [h] at e; cases e
    exact wr_tbl wu ps
  | bo i => exact r
  | rng lo hi => obtain ⟨a, e, h⟩ := r; exact ⟨a, e, i _ _ h rfl⟩
theorem RvR.back {Hs Hs' : Hp} (t : ∀ a, Hs' a ≠ none → Hs a ≠ none) (r : RvR K Hs σ H fs rv v) : RvR K Hs' σ H fs rv v := by
  cases rv with
  | d x => exact r
  | ow w =>
    obtain ⟨A, o, n, h⟩ := r
    exact ⟨A, o, n, fun a ha => Classical.byContradiction fun z => t a z (h a ha)⟩
  | bo i => exact r
  | rng lo hi => exact r
end
def After {α : Type} (K : PySem.W.Frag) (C : Fr) (σ : L2.St) (H : Hp) (fs : List (List Addr)) (r : Res α) (Q : α → List Sl → Hp → List (List Addr) → Prop) : Prop := match r with
  | .ok a env' => ∀ H' fs', Stp fs.flatten H H' → Sub fs' fs → ER K C env' σ H' fs' → Q a env' H' fs'
  | .exc c x env' => ∀ d v H' fs', Stp fs.flatten H H' → Sub fs' fs → ER K C env' σ H' fs' → H' d = some (.xd [("thing", v)]) → Fp K H' x v → C.W (.ref (C.cls c)) (some d) σ H'
  | .bad => False
section
variable {α β : Type} {K : PySem.W.Frag} {C : Fr} {env env' : List Sl} {σ : L2.St} {H H' H1 H2 : Hp} {fs fs' fs1 fs2 : List (List Addr)} {v : V} {rv : Rv} {r : Res α} {Q : α → List Sl → Hp → List (List Addr) → Prop}
theorem After.step (h : After K C σ H fs r Q) (p : Stp fs.flatten H H1) (s : Sub fs1 fs) : After K C σ H1 fs1 r Q := by
  cases r with
  | ok a e => exact fun H' fs' p' s' E' => h H' fs' (p.trans p' s) (s'.trans s) E'
  | exc c x e => exact fun d v H' fs' p' s' E' => h d v H' fs' (p.trans p' s) (s'.trans s) E'
  | bad => exact h
theorem After.imp {Q' : α → List Sl → Hp → List (List Addr) → Prop} (h : After K C σ H fs r Q) (k : ∀ a e H' fs', r = .ok a e → Stp fs.flatten H H' → Sub fs' fs → ER K C e σ H' fs' → Q a e H' fs' → Q' a e H' fs') : After K C σ H fs r Q' := by
  cases r with
  | ok a e => exact fun H' fs' p' s' E' => k a e H' fs' rfl p' s' E' (h H' fs' p' s' E')
  | exc c x e => exact h
  | bad => exact h
theorem After.bind {k : α → List Sl → Res β} {Q : β → List Sl → Hp → List (List Addr) → Prop} (h : After K C σ H fs (r.bind k) Q) :
    After K C σ H fs r fun a e H1 fs1 => After K C σ H1 fs1 (k a e) Q := by
  cases r with
  | ok a e => exact fun H' fs' p' s' E' => After.step (r := k a e) h p' s'
  | exc c x e => exact h
  | bad => exact h
end
/-- what an expression's reading says -/
def TD (K : PySem.W.Frag) (C : Fr) (f : De) : TE := fun σ H Q => ∃ env fs, ER K C env σ H fs ∧ After K C σ H fs (f env) fun rv _ H' fs' => ∀ v, RvR K H σ H' fs' rv v → Q v H'
theorem PE.imp {X : Cx} {e : Expr} {t t' : TE} (h : PE X e t) (i : ∀ σ H Q, t' σ H Q → t σ H Q) : PE X e t' := ⟨fun pins s σ H Q I q => h.run pins s σ H Q I (i σ H Q q)⟩
theorem PT.imp {X : Cx} {e : Expr} {t t' : TT} (h : PT X e t) (i : ∀ σ H Q, t' σ H Q → t σ H Q) : PT X e t' := ⟨fun pins s σ H Q I q => h.run pins s σ H Q I (i σ H Q q)⟩
theorem PW.imp {X : Cx} {e : Expr} {t t' : TT} (h : PW X e t) (i : ∀ σ H Q, t' σ H Q → t σ H Q) : PW X e t' := ⟨fun wh pins s σ H Q I q => h.run wh pins s σ H Q I (i σ H Q q)⟩
theorem PA.imp {X : Cx} {e : List Expr} {t t' : TA} (h : PA X e t) (i : ∀ σ H Q, t' σ H Q → t σ H Q) : PA X e t' := ⟨fun p pins s σ H Q I q => h.run p pins s σ H Q I (i σ H Q q)⟩
theorem PS.imp {X : Cx} {e : Stmt} {t t' : TS} (h : PS X e t) (i : ∀ D σ H, t' D σ H → t D σ H) : PS X e t' := ⟨fun pins s σ H D I q => h.run pins s σ H D I (i D σ H q)⟩
theorem PSs.imp {X : Cx} {e : List Stmt} {t t' : TS} (h : PSs X e t) (i : ∀ D σ H, t' D σ H → t D σ H) : PSs X e t' := ⟨fun pins s σ H D I q => h.run pins s σ H D I (i D σ H q)⟩
theorem PI.imp {X : Cx} {tg e : Expr} {t t' : TI} (h : PI X tg e t) (i : ∀ σ H Q, t' σ H Q → t σ H Q) : PI X tg e t' := ⟨fun pins s σ H Q I q => h.run pins s σ H Q I (i σ H Q q)⟩

/-! ### values that are used at once -/
/-- as Fp, but the top itself may still be written by its owner -/
def Tp (K : PySem.W.Frag) (H : Hp) : PyData → V → Prop
  | .list ds, v => ∃ a vs, v = .ref a ∧ Rd H a (.lst vs) ∧ FpL K H ds vs
  | x, v => Fp K H x v
theorem Fp.tp {K : PySem.W.Frag} {H : Hp} {x : PyData} {v : V} (h : Fp K H x v) : Tp K H x v := by
  cases x with
  | list ds => obtain ⟨a, vs, e, f, r⟩ := h; exact ⟨a, vs, e, f.rd, r⟩
  | none => exact h
  | bool b => exact h
  | int i => exact h
  | str s => exact h
  | tuple ds => exact h
  | dict kvs => exact h
def Rv.val (env : List Sl) : Rv → Option PyData
  | .d x => some x
  | .ow (.lst xs) => some (.list xs)
  | .ow _ => none
  | .bo i => match env[i]? with
    | some (.ow (.lst xs)) => some (.list xs)
    | some (.le (.lst xs)) => some (.list xs)
    | some (.d x) => some x
    | _ => none
  | .rng _ _ => none
section
variable {K : PySem.W.Frag} {C : Fr} {env env' : List Sl} {σ : L2.St} {H H' H1 H2 : Hp} {fs fs' fs1 fs2 : List (List Addr)} {v : V} {rv : Rv} {x : PyData}
theorem RvR.tp {Hs : Hp} (E : ER K C env σ H fs) (r : RvR K Hs σ H fs rv v) (h : rv.val env = some x) : Tp K H x v := by
  cases rv with
  | d y => cases h; exact Fp.tp r
  | ow w =>
    cases w with
    | lst xs =>
      cases h
      obtain ⟨A, ⟨a, vs, e, _, e2, r⟩, _⟩ := r
      exact ⟨a, vs, e, .inl e2, r⟩
    | dct kvs => cases h
    | deck ks a b c => cases h
  | bo i =>
    dsimp only [Rv.val] at h
    cases q : env[i]? with
    | none => rw [q] at h; cases h
    | some s =>
      rw [q] at h
      obtain ⟨o, A, h1, h2, h3⟩ := E.sl.get q
      rw [show σ[i]? = some (some v) from r] at h1
      cases h1
      cases s with
      | un => cases h
      | d y => cases h; obtain ⟨_, u, e, f⟩ := h3; cases e; exact f.tp
      | ow w =>
        cases w with
        | lst xs =>
          cases h
          obtain ⟨u, e, ⟨a, vs, e1, _, e2, r⟩⟩ := h3
          cases e
          exact ⟨a, vs, e1, .inl e2, r⟩
        | dct kvs => cases h
        | deck ks a b c => cases h
      | le w =>
        cases w with
        | lst xs =>
          cases h
          obtain ⟨u, e, ⟨a, vs, e1, _, e2, r⟩⟩ := h3
          cases e
          exact ⟨a, vs, e1, .inl e2, r⟩
        | dct kvs => cases h
        | deck ks a b c => cases h
      | rng lo hi => cases h
      | scr ns => cases h
  | rng lo hi => cases h
/-- a value that an operation has made -/
def Ne (K : PySem.W.Frag) (H H' : Hp) (rv : Rv) (v : V) : Prop := Ex H H' ∧ match rv with
  | .d x => Fp K H' x v
  | .ow w => ∃ A, OwR K H' w v A ∧ ∀ a ∈ A, H a = none
  | .rng lo hi => ∃ a, v = .ref a ∧ H' a = some (.rng lo hi)
  | .bo _ => False
theorem Ne.out (E : ER K C env σ H fs) (n : Ne K H H' rv v) : Stp fs.flatten H H' ∧ ER K C env σ H' fs ∧ RvR K H σ H' fs rv v := by
  obtain ⟨e, n⟩ := n
  refine ⟨.of_ex e, E.ex e, ?_⟩
  cases rv with
  | d x => exact n
  | ow w => obtain ⟨A, o, h⟩ := n; exact ⟨A, o, fun a ha => E.notIn (h a ha), h⟩
  | bo i => cases n
  | rng lo hi => exact n
end
/-- an operation on values says g -/
def OpD (K : PySem.W.Frag) (r : R2) (g : PyData → PyData → Option Rv) : Prop := ∀ H x y vx vy rv (Q : VK), Tp K H x vx → Tp K H y vy → g x y = some rv → (∀ v H', Ne K H H' rv v → Q v H') → r vx vy H Q
def UnD (K : PySem.W.Frag) (r : V → Hp → VK → Prop) (g : PyData → Option Rv) : Prop := ∀ H x vx rv (Q : VK), Tp K H x vx → g x = some rv → (∀ v H', Ne K H H' rv v → Q v H') → r vx H Q
def TpL (K : PySem.W.Frag) (H : Hp) : List PyData → List V → Prop
  | [], vs => vs = []
  | d :: ds, vs => ∃ v r, vs = v :: r ∧ Tp K H d v ∧ TpL K H ds r
def CallD (K : PySem.W.Frag) (r : List V → Hp → VK → Prop) (g : List PyData → Option Rv) : Prop := ∀ H xs vs rv (Q : VK), TpL K H xs vs → g xs = some rv → (∀ v H', Ne K H H' rv v → Q v H') → r vs H Q
def opt (o : Option Rv) (e : List Sl) : Res Rv := match o with
  | some rv => .ok rv e
  | none => .bad
def dBin (g : PyData → PyData → Option Rv) (fa fb : De) : De := fun env => (fa env).bind fun ra e1 => (fb e1).bind fun rb e2 => match ra.val e2, rb.val e2 with
  | some x, some y => opt (g x y) e2
  | _, _ => .bad
def dUn (g : PyData → Option Rv) (fa : De) : De := fun env => (fa env).bind fun ra e1 => match ra.val e1 with
  | some x => opt (g x) e1
  | none => .bad
section
variable {K : PySem.W.Frag} {X : Cx} {C : Fr} {fa fb fc : De} {σ : L2.St} {H : Hp} {Q : VK} {r : R2} {g : PyData → PyData → Option Rv}
theorem td_bin (hg : OpD K r g) (h : TD K C (dBin g fa fb) σ H Q) : tOp r (TD K C fa) (TD K C fb) σ H Q := by
  obtain ⟨env, fs, E, h⟩ := h
  refine ⟨env, fs, E, h.bind.imp fun ra e1 H1 fs1 _ p1 s1 E1 h1 x rx => ?_⟩
  refine ⟨e1, fs1, E1, h1.bind.imp fun rb e2 H2 fs2 _ p2 s2 E2 h2 y ry => ?_⟩
  have rx2 := RvR.step E1 rx p2 s2
  cases hx : ra.val e2 with
  | none => rw [hx] at h2; exact h2.elim
  | some dx =>
    cases hy : rb.val e2 with
    | none => rw [hx, hy] at h2; exact h2.elim
    | some dy =>
      rw [hx, hy] at h2; dsimp only at h2
      cases hz : g dx dy with
      | none => rw [show opt (g dx dy) e2 = .bad by rw [hz]; rfl] at h2; exact h2.elim
      | some rv =>
        rw [show opt (g dx dy) e2 = .ok rv e2 by rw [hz]; rfl] at h2
        refine hg H2 dx dy x y rv Q (RvR.tp E2 rx2 hx) (RvR.tp E2 ry hy) hz fun v H' n => ?_
        obtain ⟨p, E', r'⟩ := n.out E2
        exact h2 H' fs2 p Sub.refl E' v (r'.back fun a z => p2.there a (p1.there a z))
theorem td_un {r : V → Hp → VK → Prop} {g : PyData → Option Rv} (hg : UnD K r g) (h : TD K C (dUn g fa) σ H Q) : tUn r (TD K C fa) σ H Q := by
  obtain ⟨env, fs, E, h⟩ := h
  refine ⟨env, fs, E, h.bind.imp fun ra e1 H1 fs1 _ p1 s1 E1 h1 x rx => ?_⟩
  cases hx : ra.val e1 with
  | none => rw [hx] at h1; exact h1.elim
  | some dx =>
    rw [hx] at h1; dsimp only at h1
    cases hz : g dx with
    | none => rw [show opt (g dx) e1 = .bad by rw [hz]; rfl] at h1; exact h1.elim
    | some rv =>
      rw [show opt (g dx) e1 = .ok rv e1 by rw [hz]; rfl] at h1
      refine hg H1 dx x rv Q (RvR.tp E1 rx hx) hz fun v H' n => ?_
      obtain ⟨p, E', r'⟩ := n.out E1
      exact h1 H' fs1 p Sub.refl E' v (r'.back p1.there)
variable {a b : Expr} {pos : Pos}
theorem de_bin {op : Operator} (ho : OpR X (binaryOp op) r) (hg : OpD X.K r g) (ha : PE X a (TD X.K C fa)) (hb : PE X b (TD X.K C fb)) : PE X (.BinOp a op b pos) (TD X.K C (dBin g fa fb)) :=
  PE.imp (pe_op ho ha hb) fun _ _ _ h => td_bin hg h
theorem de_un {op : UnaryOp} {r : V → Hp → VK → Prop} {g : PyData → Option Rv} (ho : UnR X (unaryOp op) r) (hg : UnD X.K r g) (ha : PE X a (TD X.K C fa)) : PE X (.UnaryOp op a pos) (TD X.K C (dUn g fa)) :=
  PE.imp (pe_un ho ha) fun _ _ _ h => td_un hg h
theorem de_cmp {op : CmpOp} (ho : OpR X (compareOp op) r) (hg : OpD X.K r g) (ha : PE X a (TD X.K C fa)) (hb : PE X b (TD X.K C fb)) (hm : behindInMarks op b = false) : PE X (.Compare a [op] [b] pos) (TD X.K C (dBin g fa fb)) :=
  PE.imp (pe_cmpR ho ha hb hm) fun _ _ _ h => td_bin hg h
theorem de_ix (ho : IxR X r) (hg : OpD X.K r g) (ha : PE X a (TD X.K C fa)) (hb : PE X b (TD X.K C fb)) (hs : PlainIx b := by exact fun _ _ => rfl) : PE X (.Subscript a b pos) (TD X.K C (dBin g fa fb)) :=
  PE.imp (pe_ix ho ha hb hs) fun _ _ _ h => td_bin hg h
end

/-! ### names, constants -/
def dVar (i : Nat) : De := fun env => match env[i]? with
  | some (.d x) => .ok (.d x) env
  | some (.ow _) => .ok (.bo i) env
  | some (.le _) => .ok (.bo i) env
  | some (.rng lo hi) => .ok (.rng lo hi) env
  | _ => .bad
def dC (x : PyData) : De := fun env => .ok (.d x) env
section
variable {X : Cx} {C : Fr}
theorem td_var {i : Nat} {K : PySem.W.Frag} {σ : L2.St} {H : Hp} {Q : VK} (h : TD K C (dVar i) σ H Q) : tVar i σ H Q := by
  obtain ⟨env, fs, E, h⟩ := h
  unfold dVar at h
  cases q : env[i]? with
  | none => rw [q] at h; exact h.elim
  | some s =>
    obtain ⟨o, A, h1, h2, h3⟩ := E.sl.get q
    rw [q] at h
    cases s with
    | un => exact h.elim
    | d x =>
      obtain ⟨_, v, e, f⟩ := h3
      subst e
      exact ⟨v, h1, h H fs .refl .refl E v f⟩
    | ow w =>
      obtain ⟨v, e, f⟩ := h3
      subst e
      exact ⟨v, h1, h H fs .refl .refl E v h1⟩
    | le w =>
      obtain ⟨v, e, f⟩ := h3
      subst e
      exact ⟨v, h1, h H fs .refl .refl E v h1⟩
    | rng lo hi =>
      obtain ⟨_, a, e, f⟩ := h3
      subst e
      exact ⟨.ref a, h1, h H fs .refl .refl E _ ⟨a, rfl, f⟩⟩
    | scr ns => exact h.elim
theorem de_var (i : Nat) {x : Str} {pos : Pos} (hN : X.N[i]? = some x := by rfl) (hv : Vis X.env.scope x := by first | exact Or.inl rfl | exact Or.inr (Or.inl rfl) | exact Or.inr (Or.inr rfl)) (hd : (x == ("__debug__" : Str)) = false := by decide)
    (hcd : (x == ("__classdict__" : Str)) = false := by decide) : PE X (.Name x pos) (TD X.K C (dVar i)) := PE.imp (pv i hN hv hd hcd) fun _ _ _ h => td_var h
theorem td_c {K : PySem.W.Frag} {x : PyData} {v : V} {σ : L2.St} {H : Hp} {Q : VK} (f : ∀ H, Fp K H x v) (h : TD K C (dC x) σ H Q) : tC v σ H Q := by
  obtain ⟨env, fs, E, h⟩ := h
  exact h H fs .refl .refl E v (f H)
theorem de_int {i j pos} : PE X (.Constant (.int i) j pos) (TD X.K C (dC (.int i))) := PE.imp pe_int fun _ _ _ h => td_c (x := .int i) (v := .int i) (fun _ => rfl) h
theorem de_bl {b j pos} : PE X (.Constant (.bool b) j pos) (TD X.K C (dC (.bool b))) := PE.imp pe_bl fun _ _ _ h => td_c (x := .bool b) (v := .bl b) (fun _ => rfl) h
theorem de_non {j pos} : PE X (.Constant .none j pos) (TD X.K C (dC .none)) := PE.imp pe_non fun _ _ _ h => td_c (x := .none) (v := .non) (fun _ => rfl) h
theorem de_str {x j pos} : PE X (.Constant (.str x) j pos) (TD X.K C (dC (.str x))) := PE.imp pe_str fun _ _ _ h => td_c (x := .str x) (v := .str x) (fun _ => rfl) h
/-- a constant of the module -/
theorem de_glob {x : Str} {d : PyData} {v : V} {u : Value} {pos : Pos} (hg : Gl X x) (hm : X.mg x = some u) (r : RelV v u) (f : ∀ H, Fp X.K H d v) (hd : (x == ("__debug__" : Str)) = false := by decide) : PE X (.Name x pos) (TD X.K C (dC d)) :=
  PE.imp (pe_glob hg hm r hd) fun _ _ _ h => td_c f h
end
end Dn

set_option Elab.async false
set_option linter.all false
set_option maxRecDepth 100000
set_option maxHeartbeats 4000000
namespace Dn
open PySem PySem.Spec PyProof.Rows L2
/-! ### operations on numbers and data -/
abbrev bOk (f : Int → Int → PyData) (ok : Int → Int → Bool) : PyData → PyData → Option Rv
  | .int i, .int j => if ok i j then some (.d (f i j)) else none
  | _, _ => none
def lim : Nat := 10000000
theorem lim_size {n : Nat} (h : n ≤ lim) : n ≤ sizeLine := by rw [sizeLine_eq]; unfold lim at h; omega
theorem lim_lt {n : Nat} (h : n < lim) : n < sizeLine := by rw [sizeLine_eq]; unfold lim at h; omega
section
variable {K : PySem.W.Frag} {H H' : Hp} {r r' : R2} {g g' : PyData → PyData → Option Rv} {x y : PyData} {v : V}
theorem tp_int {i : Int} (h : Tp K H (.int i) v) : v = .int i := h
theorem tp_bool {b : Bool} (h : Tp K H (.bool b) v) : v = .bl b := h
theorem tp_str {b : Str} (h : Tp K H (.str b) v) : v = .str b := h
theorem Ne.same {x : PyData} (h : Fp K H x v) : Ne K H H (.d x) v := ⟨Ex.refl, h⟩
theorem opd_I {C : Int → Int → Prop} {f : Int → Int → PyData} {fv : Int → Int → V} {ok : Int → Int → Bool} (hC : ∀ i j, ok i j = true → C i j) (hf : ∀ H i j, Fp K H (f i j) (fv i j)) : OpD K (rI C fv) (bOk f ok) := by
  intro H x y vx vy rv Q hx hy h k
  cases x <;> cases y <;> first | cases h | skip
  rename_i i j
  dsimp only [bOk] at h
  split at h
  · rename_i ho
    cases h
    exact ⟨i, j, hx, hy, hC i j ho, k _ _ (Ne.same (hf H i j))⟩
  · cases h
theorem opd_I0 {f : Int → Int → PyData} {fv : Int → Int → V} (hf : ∀ H i j, Fp K H (f i j) (fv i j)) : OpD K (rI0 fv) (bOk f fun _ _ => true) := by
  intro H x y vx vy rv Q hx hy h k
  cases x <;> cases y <;> first | cases h | skip
  rename_i i j
  exact ⟨i, j, hx, hy, k _ _ (Ne.same (hf H i j))⟩
def orE (g g' : PyData → PyData → Option Rv) : PyData → PyData → Option Rv := fun x y => match g x y with
  | some r => some r
  | none => g' x y
theorem OpD.or (h : OpD K r g) (h' : OpD K r' g') : OpD K (fun x y H Q => r x y H Q ∨ r' x y H Q) (orE g g') := by
  intro H x y vx vy rv Q hx hy e k
  unfold orE at e
  cases q : g x y with
  | some z => rw [q] at e; cases e; exact .inl (h H x y vx vy rv Q hx hy q k)
  | none => rw [q] at e; exact .inr (h' H x y vx vy rv Q hx hy e k)
/-! #### + -/
abbrev gAddI := bOk (fun i j => .int (i + j)) fun _ _ => true
abbrev gSubI := bOk (fun i j => .int (i - j)) fun _ _ => true
abbrev gMulI := bOk (fun i j => .int (i * j)) fun i j => (decide (-(2 ^ 64) < i) && decide (i < 2 ^ 64)) || (decide (-(2 ^ 64) < j) && decide (j < 2 ^ 64))
abbrev gFdivI := bOk (fun i j => .int (i.fdiv j)) fun i j => decide (j ≠ 0) && decide (j.natAbs < 1073741824)
abbrev gModI := bOk (fun i j => .int (i.fmod j)) fun i j => decide (j ≠ 0)
abbrev gPowI := bOk (fun i j => .int (i ^ j.toNat)) fun i j => decide (0 ≤ j) && (decide (j ≤ 1000000) && decide (i.natAbs < 2 ^ 64))
abbrev gLtI := bOk (fun i j => .bool (decide (i < j))) fun _ _ => true
abbrev gLeI := bOk (fun i j => .bool (decide (i ≤ j))) fun _ _ => true
abbrev gGtI := bOk (fun i j => .bool (decide (j < i))) fun _ _ => true
abbrev gGeI := bOk (fun i j => .bool (decide (j ≤ i))) fun _ _ => true
theorem od_sub : OpD K (rI0 fun i j => .int (i - j)) gSubI := opd_I0 fun _ _ _ => rfl
theorem od_mul : OpD K (rI CMul fun i j => .int (i * j)) gMulI := opd_I (fun i j h => by
  simp only [Bool.or_eq_true, Bool.and_eq_true, decide_eq_true_eq] at h; exact h) fun _ _ _ => rfl
theorem od_fdiv : OpD K (rI CDivN fun i j => .int (i.fdiv j)) gFdivI := opd_I (fun i j h => by
  simp only [Bool.and_eq_true, decide_eq_true_eq] at h; exact h) fun _ _ _ => rfl
theorem od_mod : OpD K (rI (fun _ j => j ≠ 0) fun i j => .int (i.fmod j)) gModI := opd_I (fun i j h => by
  simpa using h) fun _ _ _ => rfl
theorem od_pow : OpD K (rI CPow fun i j => .int (i ^ j.toNat)) gPowI := opd_I (fun i j h => by
  simp only [Bool.and_eq_true, decide_eq_true_eq] at h; exact ⟨h.1, h.2.1, h.2.2⟩) fun _ _ _ => rfl
theorem od_lt : OpD K (rI0 fun i j => .bl (decide (i < j))) gLtI := opd_I0 fun _ _ _ => rfl
theorem od_le : OpD K (rI0 fun i j => .bl (decide (i ≤ j))) gLeI := opd_I0 fun _ _ _ => rfl
theorem od_gt : OpD K (rI0 fun i j => .bl (decide (j < i))) gGtI := opd_I0 fun _ _ _ => rfl
theorem od_ge : OpD K (rI0 fun i j => .bl (decide (j ≤ i))) gGeI := opd_I0 fun _ _ _ => rfl
/-- + of texts, tuples, lists -/
def gAddX : PyData → PyData → Option Rv
  | .str a, .str b => if a.length + b.length ≤ lim then some (.d (.str (a ++ b))) else none
  | .tuple a, .tuple b => if a.length + b.length ≤ lim then some (.d (.tuple (a ++ b))) else none
  | .list a, .list b => if a.length + b.length ≤ lim then some (.ow (.lst (a ++ b))) else none
  | _, _ => none
/-- xs + ys, lists that may be frozen -/
def rCatL (K : PySem.W.Frag) : R2 := fun x y H Q => ∃ l b xs zs, x = .ref l ∧ y = .ref b ∧ Rd H l (.lst xs) ∧ Rd H b (.lst zs) ∧ xs.length + zs.length ≤ sizeLine ∧ ∀ p, H p = none → Q (.ref p) (upd H p (.lst (xs ++ zs)))
def rAddS : R2 := fun x y H Q => ∃ i j, x = .str i ∧ y = .str j ∧ i.length + j.length ≤ sizeLine ∧ Q (.str (i ++ j)) H
def rAddX (K : PySem.W.Frag) : R2 := fun x y H Q => rAddS x y H Q ∨ (rCatA K x y H Q ∨ rCatL K x y H Q)
theorem od_addX : OpD K (rAddX K) gAddX := by
  intro H x y vx vy rv Q hx hy h k
  cases x with
  | str a =>
    cases y <;> first | cases h | skip
    rename_i b
    dsimp only [gAddX] at h
    split at h
    · rename_i hl
      cases h
      exact .inl ⟨a, b, hx, hy, lim_size hl, k _ _ (Ne.same rfl)⟩
    · cases h
  | tuple a =>
    cases y <;> first | cases h | skip
    rename_i b
    dsimp only [gAddX] at h
    split at h
    · rename_i hl
      cases h
      obtain ⟨p, vs, rfl, sp, fa⟩ := hx
      obtain ⟨q, ws, rfl, sq, fb⟩ := hy
      refine .inr (.inl ⟨p, q, vs, ws, rfl, rfl, sp, sq, by rw [fa.len, fb.len]; exact lim_size hl, fun e => k _ _ (Ne.same ?_), fun _ e => k _ _ (Ne.same ?_), fun _ _ c hc => k _ _ ⟨Ex.new hc, ?_⟩⟩)
      · subst e
        have ea : a = [] := List.eq_nil_of_length_eq_zero fa.len.symm
        subst ea
        exact ⟨q, ws, rfl, sq, fb⟩
      · subst e
        have eb : b = [] := List.eq_nil_of_length_eq_zero fb.len.symm
        subst eb
        exact ⟨p, vs, rfl, sp, by rw [List.append_nil]; exact fa⟩
      · exact ⟨c, _, rfl, .of upd_same, FpL.im (Ex.new hc).im _ _ (fa.app fb)⟩
    · cases h
  | list a =>
    cases y <;> first | cases h | skip
    rename_i b
    dsimp only [gAddX] at h
    split at h
    · rename_i hl
      cases h
      obtain ⟨p, vs, rfl, sp, fa⟩ := hx
      obtain ⟨q, ws, rfl, sq, fb⟩ := hy
      refine .inr (.inr ⟨p, q, vs, ws, rfl, rfl, sp, sq, by rw [fa.len, fb.len]; exact lim_size hl, fun c hc => k _ _ ⟨Ex.new hc, [c], ⟨c, _, rfl, rfl, upd_same, FpL.im (Ex.new hc).im _ _ (fa.app fb)⟩, fun d hd => by rw [List.mem_singleton.mp hd]; exact hc⟩⟩)
    · cases h
  | none => cases h
  | bool b => cases h
  | int i => cases h
  | dict kvs => cases h
end
section
variable {X : Cx}
theorem op_catL : OpR X (binaryOp .Add) (rCatL X.K) := by
  intro pins s σ H x y v u Q I rx ry h
  obtain ⟨l, b, xs, zs, rfl, rfl, hH, hB, hz, q⟩ := h
  cases rx; cases ry
  obtain ⟨_, i1, n1, r1, e1⟩ := hH.ok I.hok
  obtain ⟨_, i2, n2, r2, e2⟩ := hB.ok I.hok
  have m1 := r1.length
  have m2 := r2.length
  refine PySem.P.add_list e1 e2 ?_ (by rw [List.size_toArray, List.size_toArray]; omega)
  rw [show i1.toArray ++ i2.toArray = (i1 ++ i2).toArray by simp]
  exact ⟨.ref _, _, I.lnew (t' := s.toks) (r1.append r2) (by rw [List.length_append]; omega), rfl, q _ I.fresh⟩
theorem op_addX : OpR X (binaryOp .Add) (rAddX X.K) := op_add_str.or (op_catA.or op_catL)
/-- + of anything that is carried -/
abbrev gAdd := orE gAddI gAddX
theorem op_addAll : OpR X (binaryOp .Add) (fun x y H Q => rI0 (fun i j => .int (i + j)) x y H Q ∨ rAddX X.K x y H Q) := op_add.or op_addX
theorem od_addAll {K : PySem.W.Frag} : OpD K (fun x y H Q => rI0 (fun i j => .int (i + j)) x y H Q ∨ rAddX K x y H Q) gAdd := (opd_I0 (f := fun i j => .int (i + j)) (fv := fun i j => .int (i + j)) fun _ _ _ => rfl).or od_addX
end
end Dn

set_option Elab.async false
set_option linter.all false
set_option maxRecDepth 100000
set_option maxHeartbeats 4000000
namespace Dn
open PySem PySem.Spec PyProof.Rows L2
section
variable {K : PySem.W.Frag} {H H' : Hp} {x y : PyData} {v : V}
/-! ### == -/
mutual
theorem Fp.dp : ∀ (d : PyData) (v : V), d.canLay0 = true → Fp K H d v → Dp K H v d
  | .none, _, _, h => by rw [show _ = V.non from h]; exact .non
  | .bool b, _, _, h => by rw [show _ = V.bl b from h]; exact .bl b
  | .int i, _, _, h => by rw [show _ = V.int i from h]; exact .int i
  | .str s, _, _, h => by rw [show _ = V.str s from h]; exact .str s
  | .tuple ds, _, c, ⟨a, vs, e, s, f⟩ => by
    subst e; exact .tup s (FpL.dp ds vs (by simpa [PyData.canLay0] using c) f)
  | .list ds, _, c, ⟨a, vs, e, s, f⟩ => by
    subst e; exact .lst (.inl s.rd) (FpL.dp ds vs (by simpa [PyData.canLay0] using c) f)
  | .dict kvs, _, c, _ => by simp [PyData.canLay0] at c
theorem FpL.dp : ∀ (ds : List PyData) (vs : List V), PyData.canLayAll0 ds = true → FpL K H ds vs → DpAll K H vs ds
  | [], _, _, h => by rw [show _ = ([] : List V) from h]; exact .nil
  | d :: ds, _, c, ⟨v, r, e, h, t⟩ => by
    subst e
    have c' : d.canLay0 = true ∧ PyData.canLayAll0 ds = true := by simpa [PyData.canLayAll0] using c
    exact .cons (Fp.dp d v c'.1 h) (FpL.dp ds r c'.2 t)
end
theorem Tp.dp (c : x.canLay0 = true) (h : Tp K H x v) : Dp K H v x := by
  cases x with
  | list ds =>
    obtain ⟨a, vs, rfl, s, f⟩ := h
    exact .lst (.inl s) (FpL.dp ds vs (by simpa [PyData.canLay0] using c) f)
  | none => exact Fp.dp _ _ c h
  | bool b => exact Fp.dp _ _ c h
  | int i => exact Fp.dp _ _ c h
  | str s => exact Fp.dp _ _ c h
  | tuple ds => exact Fp.dp _ _ c h
  | dict kvs => exact Fp.dp _ _ c h
def gEq : PyData → PyData → Option Rv := fun x y => if SeqAt.shaped x && SeqAt.shaped y then some (.d (.bool (PyData.eqv x y))) else none
def gNe : PyData → PyData → Option Rv := fun x y => if SeqAt.shaped x && SeqAt.shaped y then some (.d (.bool (!PyData.eqv x y))) else none
theorem od_eq : OpD K (rEqD K) gEq := by
  intro H x y vx vy rv Q hx hy h k
  unfold gEq at h
  split at h
  · rename_i c
    rw [Bool.and_eq_true] at c
    cases h
    exact ⟨x, y, Tp.dp (SeqAt.canLay_of_shaped c.1) hx, Tp.dp (SeqAt.canLay_of_shaped c.2) hy, c.1, c.2, k _ _ (Ne.same rfl)⟩
  · cases h
theorem od_ne : OpD K (rNeD K) gNe := by
  intro H x y vx vy rv Q hx hy h k
  unfold gNe at h
  split at h
  · rename_i c
    rw [Bool.and_eq_true] at c
    cases h
    exact ⟨x, y, Tp.dp (SeqAt.canLay_of_shaped c.1) hx, Tp.dp (SeqAt.canLay_of_shaped c.2) hy, c.1, c.2, k _ _ (Ne.same rfl)⟩
  · cases h
/-! ### is None -/
def isNn : PyData → Bool
  | .none => true
  | _ => false
theorem isNn_v (h : Tp K H x v) : decide (v = .non) = isNn x := by
  cases x with
  | none => rw [show v = V.non from h]; rfl
  | bool b => rw [show v = V.bl b from h]; rfl
  | int i => rw [show v = V.int i from h]; rfl
  | str s => rw [show v = V.str s from h]; rfl
  | tuple ds => obtain ⟨a, vs, rfl, _⟩ := h; rfl
  | list ds => obtain ⟨a, vs, rfl, _⟩ := h; rfl
  | dict kvs => obtain ⟨_, a, o, rfl, _⟩ := h; rfl
def gIsN : PyData → PyData → Option Rv := fun x y => if isNn y then some (.d (.bool (isNn x))) else none
def gNotN : PyData → PyData → Option Rv := fun x y => if isNn y then some (.d (.bool (!isNn x))) else none
theorem isNn_eq {y : PyData} (h : isNn y = true) : y = .none := by cases y <;> first | rfl | cases h
theorem od_isN : OpD K (fun x y H Q => y = .non ∧ Q (.bl (decide (x = .non))) H) gIsN := by
  intro H x y vx vy rv Q hx hy h k
  unfold gIsN at h
  split at h
  · rename_i c
    cases isNn_eq c; cases h
    exact ⟨hy, by rw [isNn_v hx]; exact k _ _ (Ne.same rfl)⟩
  · cases h
theorem od_notN : OpD K (fun x y H Q => y = .non ∧ Q (.bl (!decide (x = .non))) H) gNotN := by
  intro H x y vx vy rv Q hx hy h k
  unfold gNotN at h
  split at h
  · rename_i c
    cases isNn_eq c; cases h
    exact ⟨hy, by rw [isNn_v hx]; exact k _ _ (Ne.same rfl)⟩
  · cases h
/-! ### in a list or tuple of flat things -/
def flatD : PyData → Bool
  | .none => true
  | .bool _ => true
  | .int _ => true
  | .str _ => true
  | _ => false
theorem flat_v (c : flatD x = true) (h : Fp K H x v) : flatV v = true := by
  cases x with
  | none => rw [show v = V.non from h]; rfl
  | bool b => rw [show v = V.bl b from h]; rfl
  | int i => rw [show v = V.int i from h]; rfl
  | str s => rw [show v = V.str s from h]; rfl
  | tuple ds => cases c
  | list ds => cases c
  | dict kvs => cases c
theorem eqV_d {u : V} (c : flatD x = true) (d : flatD y = true) (h : Fp K H x v) (q : Fp K H y u) : eqV v u = PyData.eqv x y := by
  cases x <;> first | cases c | skip
  all_goals (cases y <;> first | cases d | skip)
  all_goals (rw [show v = _ from h, show u = _ from q]; simp only [eqV, PyData.eqv])
theorem flatAll_v : ∀ {ds : List PyData} {vs : List V}, ds.all flatD = true → FpL K H ds vs → vs.all flatV = true
  | [], _, _, h => by rw [show _ = ([] : List V) from h]; rfl
  | d :: ds, _, c, ⟨v, r, e, h, t⟩ => by
    subst e
    rw [List.all_cons, Bool.and_eq_true] at c
    rw [List.all_cons, flat_v c.1 h, flatAll_v c.2 t]; rfl
theorem inV_d (cx : flatD x = true) (hx : Fp K H x v) : ∀ {ds : List PyData} {vs : List V}, ds.all flatD = true → FpL K H ds vs → vs.any (fun u => eqV u v) = ds.any (fun d => PyData.eqv d x)
  | [], _, _, h => by rw [show _ = ([] : List V) from h]; rfl
  | d :: ds, _, c, ⟨u, r, e, h, t⟩ => by
    subst e
    rw [List.all_cons, Bool.and_eq_true] at c
    rw [List.any_cons, List.any_cons, eqV_d c.1 cx h hx, inV_d cx hx c.2 t]
def gIn (neg : Bool) : PyData → PyData → Option Rv := fun x y => match y with
  | .list ds => if flatD x && ds.all flatD then some (.d (.bool (if neg then !(ds.any fun d => PyData.eqv d x) else ds.any fun d => PyData.eqv d x))) else none
  | .tuple ds => if flatD x && ds.all flatD then some (.d (.bool (if neg then !(ds.any fun d => PyData.eqv d x) else ds.any fun d => PyData.eqv d x))) else none
  | _ => none
theorem tp_flat (c : flatD x = true) (h : Tp K H x v) : Fp K H x v := by
  cases x <;> first | exact h | cases c
theorem od_in {neg : Bool} : OpD K (rIn K neg) (gIn neg) := by
  intro H x y vx vy rv Q hx hy h k
  cases y with
  | list ds =>
    dsimp only [gIn] at h
    split at h
    · rename_i c
      rw [Bool.and_eq_true] at c
      obtain ⟨a, vs, rfl, s, f⟩ := hy
      have hx' := tp_flat c.1 hx
      refine ⟨a, vs, rfl, .inl (.inl s), flat_v c.1 hx', flatAll_v c.2 f, ?_⟩
      have e := inV_d c.1 hx' c.2 f
      cases h
      unfold inV
      rw [e]
      exact k _ _ (Ne.same rfl)
    · cases h
  | tuple ds =>
    dsimp only [gIn] at h
    split at h
    · rename_i c
      rw [Bool.and_eq_true] at c
      obtain ⟨a, vs, rfl, s, f⟩ := hy
      have hx' := tp_flat c.1 hx
      refine ⟨a, vs, rfl, .inr s, flat_v c.1 hx', flatAll_v c.2 f, ?_⟩
      have e := inV_d c.1 hx' c.2 f
      cases h
      unfold inV
      rw [e]
      exact k _ _ (Ne.same rfl)
    · cases h
  | none => cases h
  | bool b => cases h
  | int i => cases h
  | str s => cases h
  | dict kvs => cases h
/-! ### xs[i] -/
def gIx : PyData → PyData → Option Rv
  | .list ds, .int i => (atI ds i).map Rv.d
  | .tuple ds, .int i => (atI ds i).map Rv.d
  | .str z, .int i => if z.length ≤ lim then (atI z.cps.toList i).map fun c => Rv.d (.str ⟨#[c]⟩) else none
  | _, _ => none
theorem at_d {ds : List PyData} {vs : List V} {i : Int} {d : PyData} (f : FpL K H ds vs) (h : atI ds i = some d) : ∃ v, atI vs i = some v ∧ Fp K H d v := by
  unfold atI at h ⊢
  rw [f.len]
  cases q : ixN ds.length i with
  | none => rw [q] at h; cases h
  | some j =>
    rw [q] at h
    exact f.get (i := j) h
theorem od_ix : OpD K (rIx K) gIx := by
  intro H x y vx vy rv Q hx hy h k
  cases x with
  | list ds =>
    cases y <;> first | cases h | skip
    rename_i i
    dsimp only [gIx] at h
    obtain ⟨a, vs, rfl, s, f⟩ := hx
    cases q : atI ds i with
    | none => rw [q] at h; cases h
    | some d =>
      rw [q] at h; cases h
      obtain ⟨v, e, g⟩ := at_d f q
      exact .inl ⟨a, vs, i, v, rfl, hy, .inl s, e, k _ _ (Ne.same g)⟩
  | tuple ds =>
    cases y <;> first | cases h | skip
    rename_i i
    dsimp only [gIx] at h
    obtain ⟨a, vs, rfl, s, f⟩ := hx
    cases q : atI ds i with
    | none => rw [q] at h; cases h
    | some d =>
      rw [q] at h; cases h
      obtain ⟨v, e, g⟩ := at_d f q
      exact .inr (.inl ⟨a, vs, i, v, rfl, hy, s, e, k _ _ (Ne.same g)⟩)
  | str z =>
    cases y <;> first | cases h | skip
    rename_i i
    dsimp only [gIx] at h
    split at h
    · rename_i hl
      cases q : atI z.cps.toList i with
      | none => rw [q] at h; cases h
      | some c =>
        rw [q] at h; cases h
        exact .inr (.inr ⟨z, i, c, hx, hy, lim_size hl, q, k _ _ (Ne.same rfl)⟩)
    · cases h
  | none => cases h
  | bool b => cases h
  | int i => cases h
  | dict kvs => cases h
/-! ### calls of built-ins -/
theorem TpL.one (h : TpL K H [x] vs) : ∃ v, vs = [v] ∧ Tp K H x v := by
  obtain ⟨v, r, e, t, h0⟩ := h
  rw [show r = ([] : List V) from h0] at e
  exact ⟨v, e, t⟩
theorem TpL.two (h : TpL K H [x, y] vs) : ∃ v u, vs = [v, u] ∧ Tp K H x v ∧ Tp K H y u := by
  obtain ⟨v, r, e, t, u, r', e', t', h0⟩ := h
  rw [show r' = ([] : List V) from h0] at e'
  exact ⟨v, u, by rw [e, e'], t, t'⟩
def gLen : List PyData → Option Rv
  | [.list ds] => some (.d (.int ds.length))
  | [.tuple ds] => some (.d (.int ds.length))
  | [.str z] => if z.length ≤ lim then some (.d (.int z.length)) else none
  | _ => none
theorem cd_len : CallD K (fun xs H Q => ∃ x n, xs = [x] ∧ LenV K x H n ∧ Q (.int n) H) gLen := by
  intro H xs vs rv Q hx h k
  match xs, h with
  | [.list ds], h =>
    obtain ⟨v, rfl, a, ws, rfl, s, f⟩ := hx.one
    cases h
    exact ⟨_, ws.length, rfl, .inl ⟨ws, .inl s, rfl⟩, by rw [f.len]; exact k _ _ (Ne.same rfl)⟩
  | [.tuple ds], h =>
    obtain ⟨v, rfl, a, ws, rfl, s, f⟩ := hx.one
    cases h
    exact ⟨_, ws.length, rfl, .inr ⟨ws, s, rfl⟩, by rw [f.len]; exact k _ _ (Ne.same rfl)⟩
  | [.str z], h =>
    obtain ⟨v, rfl, t⟩ := hx.one
    dsimp only [gLen] at h
    split at h
    · rename_i hl
      cases h
      rw [tp_str t]
      exact ⟨_, z.length, rfl, ⟨lim_size hl, rfl⟩, k _ _ (Ne.same rfl)⟩
    · cases h
def bools? : List PyData → Option (List Bool)
  | [] => some []
  | .bool b :: r => (bools? r).map (b :: ·)
  | _ => none
theorem bools_v : ∀ {ds : List PyData} {vs : List V} {bs : List Bool}, bools? ds = some bs → FpL K H ds vs → vs = bs.map V.bl
  | [], _, _, e, h => by cases e; exact h
  | .bool b :: ds, _, _, e, ⟨v, r, e2, h, t⟩ => by
    simp only [bools?] at e
    cases q : bools? ds with
    | none => rw [q] at e; cases e
    | some bs =>
      rw [q] at e; cases e
      rw [e2, bools_v q t, show v = V.bl b from h]; rfl
  | .none :: _, _, _, e, _ => by cases e
  | .int _ :: _, _, _, e, _ => by cases e
  | .str _ :: _, _, _, e, _ => by cases e
  | .tuple _ :: _, _, _, e, _ => by cases e
  | .list _ :: _, _, _, e, _ => by cases e
  | .dict _ :: _, _, _, e, _ => by cases e
def gAllB : List PyData → Option Rv
  | [.list ds] => (bools? ds).map fun bs => .d (.bool (bs.all id))
  | _ => none
def gAnyB : List PyData → Option Rv
  | [.list ds] => (bools? ds).map fun bs => .d (.bool (bs.any id))
  | _ => none
theorem cd_all : CallD K (rAll K) gAllB := by
  intro H xs vs rv Q hx h k
  match xs, h with
  | [.list ds], h =>
    obtain ⟨v, rfl, a, ws, rfl, s, f⟩ := hx.one
    dsimp only [gAllB] at h
    cases q : bools? ds with
    | none => rw [q] at h; cases h
    | some bs =>
      rw [q] at h; cases h
      exact ⟨a, bs, rfl, .inl (by rw [← bools_v q f]; exact s), k _ _ (Ne.same rfl)⟩
theorem cd_any : CallD K (rAny K) gAnyB := by
  intro H xs vs rv Q hx h k
  match xs, h with
  | [.list ds], h =>
    obtain ⟨v, rfl, a, ws, rfl, s, f⟩ := hx.one
    dsimp only [gAnyB] at h
    cases q : bools? ds with
    | none => rw [q] at h; cases h
    | some bs =>
      rw [q] at h; cases h
      exact ⟨a, bs, rfl, .inl (by rw [← bools_v q f]; exact s), k _ _ (Ne.same rfl)⟩
def ints? : List PyData → Option (List Int)
  | [] => some []
  | .int b :: r => (ints? r).map (b :: ·)
  | _ => none
theorem ints_v : ∀ {ds : List PyData} {vs : List V} {bs : List Int}, ints? ds = some bs → FpL K H ds vs → vs = bs.map V.int
  | [], _, _, e, h => by cases e; exact h
  | .int b :: ds, _, _, e, ⟨v, r, e2, h, t⟩ => by
    simp only [ints?] at e
    cases q : ints? ds with
    | none => rw [q] at e; cases e
    | some bs =>
      rw [q] at e; cases e
      rw [e2, ints_v q t, show v = V.int b from h]; rfl
  | .none :: _, _, _, e, _ => by cases e
  | .bool _ :: _, _, _, e, _ => by cases e
  | .str _ :: _, _, _, e, _ => by cases e
  | .tuple _ :: _, _, _, e, _ => by cases e
  | .list _ :: _, _, _, e, _ => by cases e
  | .dict _ :: _, _, _, e, _ => by cases e
def gAbs : List PyData → Option Rv
  | [.int i] => some (.d (.int (if i < 0 then -i else i)))
  | _ => none
theorem cd_abs : CallD K (fun xs H Q => ∃ i, xs = [.int i] ∧ Q (.int (if i < 0 then -i else i)) H) gAbs := by
  intro H xs vs rv Q hx h k
  match xs, h with
  | [.int i], h => obtain ⟨v, rfl, t⟩ := hx.one; cases h; rw [tp_int t]; exact ⟨i, rfl, k _ _ (Ne.same rfl)⟩
def gMax2 : List PyData → Option Rv
  | [.int i, .int j] => some (.d (.int (if j > i then j else i)))
  | _ => none
def gMin2 : List PyData → Option Rv
  | [.int i, .int j] => some (.d (.int (if j < i then j else i)))
  | _ => none
theorem cd_max2 : CallD K (fun xs H Q => ∃ i j, xs = [.int i, .int j] ∧ Q (.int (if j > i then j else i)) H) gMax2 := by
  intro H xs vs rv Q hx h k
  match xs, h with
  | [.int i, .int j], h => obtain ⟨v, u, rfl, t, t'⟩ := hx.two; cases h; rw [tp_int t, tp_int t']; exact ⟨i, j, rfl, k _ _ (Ne.same rfl)⟩
theorem cd_min2 : CallD K (fun xs H Q => ∃ i j, xs = [.int i, .int j] ∧ Q (.int (if j < i then j else i)) H) gMin2 := by
  intro H xs vs rv Q hx h k
  match xs, h with
  | [.int i, .int j], h => obtain ⟨v, u, rfl, t, t'⟩ := hx.two; cases h; rw [tp_int t, tp_int t']; exact ⟨i, j, rfl, k _ _ (Ne.same rfl)⟩
def gInt : List PyData → Option Rv
  | [.int i] => some (.d (.int i))
  | [.bool b] => some (.d (.int (if b then 1 else 0)))
  | _ => none
theorem cd_int : CallD K (fun xs H Q => (∃ i, xs = [.int i] ∧ Q (.int i) H) ∨ ∃ k, xs = [.bl k] ∧ Q (.int (if k then 1 else 0)) H) gInt := by
  intro H xs vs rv Q hx h k
  match xs, h with
  | [.int i], h => obtain ⟨v, rfl, t⟩ := hx.one; cases h; rw [tp_int t]; exact .inl ⟨i, rfl, k _ _ (Ne.same rfl)⟩
  | [.bool b], h => obtain ⟨v, rfl, t⟩ := hx.one; cases h; rw [tp_bool t]; exact .inr ⟨b, rfl, k _ _ (Ne.same rfl)⟩
def gStr : List PyData → Option Rv
  | [.int i] => if i.natAbs.log2 < 1920 then some (.d (.str (toString i))) else none
  | _ => none
theorem cd_str : CallD K (fun xs H Q => ∃ i, xs = [.int i] ∧ i.natAbs.log2 < 1920 ∧ Q (.str (toString i)) H) gStr := by
  intro H xs vs rv Q hx h k
  match xs, h with
  | [.int i], h =>
    obtain ⟨v, rfl, t⟩ := hx.one
    dsimp only [gStr] at h
    split at h
    · rename_i hl; cases h; rw [tp_int t]; exact ⟨i, rfl, hl, k _ _ (Ne.same rfl)⟩
    · cases h
def gTup : List PyData → Option Rv
  | [.list ds] => some (.d (.tuple ds))
  | [.tuple ds] => some (.d (.tuple ds))
  | _ => none
theorem cd_tup : CallD K (fun xs H Q => ∃ p ys, xs = [.ref p] ∧ ((SqL K H p ys ∧ ∀ l, H l = none → Q (.ref l) (upd H l (.tup ys))) ∨ (SqT K H p ys ∧ Q (.ref p) H))) gTup := by
  intro H xs vs rv Q hx h k
  match xs, h with
  | [.list ds], h =>
    obtain ⟨v, rfl, a, ws, rfl, s, f⟩ := hx.one
    cases h
    exact ⟨a, ws, rfl, .inl ⟨.inl s, fun l hl => k _ _ ⟨Ex.new hl, l, ws, rfl, .of upd_same, FpL.im (Ex.new hl).im _ _ f⟩⟩⟩
  | [.tuple ds], h =>
    obtain ⟨v, rfl, a, ws, rfl, s, f⟩ := hx.one
    cases h
    exact ⟨a, ws, rfl, .inr ⟨s, k _ _ (Ne.same ⟨a, ws, rfl, s, f⟩)⟩⟩
def gLst : List PyData → Option Rv
  | [.list ds] => some (.ow (.lst ds))
  | [.tuple ds] => some (.ow (.lst ds))
  | _ => none
theorem ne_lst {l : Addr} {ws : List V} {ds : List PyData} (hl : H l = none) (f : FpL K H ds ws) : Ne K H (upd H l (.lst ws)) (.ow (.lst ds)) (.ref l) :=
  ⟨Ex.new hl, [l], ⟨l, ws, rfl, rfl, upd_same, FpL.im (Ex.new hl).im _ _ f⟩, fun d hd => by rw [List.mem_singleton.mp hd]; exact hl⟩
theorem ne_tup {l : Addr} {ws : List V} {ds : List PyData} (hl : H l = none) (f : FpL K H ds ws) : Ne K H (upd H l (.tup ws)) (.d (.tuple ds)) (.ref l) :=
  ⟨Ex.new hl, l, ws, rfl, .of upd_same, FpL.im (Ex.new hl).im _ _ f⟩
theorem cd_lst : CallD K (fun xs H Q => ∃ p ys, xs = [.ref p] ∧ (SqL K H p ys ∨ SqT K H p ys) ∧ ∀ l, H l = none → Q (.ref l) (upd H l (.lst ys))) gLst := by
  intro H xs vs rv Q hx h k
  match xs, h with
  | [.list ds], h =>
    obtain ⟨v, rfl, a, ws, rfl, s, f⟩ := hx.one
    cases h
    exact ⟨a, ws, rfl, .inl (.inl s), fun l hl => k _ _ (ne_lst hl f)⟩
  | [.tuple ds], h =>
    obtain ⟨v, rfl, a, ws, rfl, s, f⟩ := hx.one
    cases h
    exact ⟨a, ws, rfl, .inr s, fun l hl => k _ _ (ne_lst hl f)⟩
/-! ### - -/
def gNeg : PyData → Option Rv
  | .int i => some (.d (.int (-i)))
  | _ => none
theorem ud_neg : UnD K (rU fun i => .int (-i)) gNeg := by
  intro H x vx rv Q hx h k
  cases x <;> first | cases h | skip
  rename_i i
  exact ⟨i, hx, k _ _ (Ne.same rfl)⟩
end
end Dn

set_option Elab.async false
set_option linter.all false
set_option maxRecDepth 100000
set_option maxHeartbeats 4000000
namespace Dn
open PySem PySem.Spec PyProof.Rows L2
/-! ### tests -/
def TB (K : PySem.W.Frag) (C : Fr) (f : De) : TT := fun σ H Q => ∃ env fs, ER K C env σ H fs ∧ After K C σ H fs (f env) fun rv _ H' _ => match rv with
  | .d (.bool b) => Q b H'
  | _ => False
section
variable {K : PySem.W.Frag} {X : Cx} {C : Fr} {f fa fb fc : De} {σ : L2.St} {H : Hp} {r r' : R2} {g g' : PyData → PyData → Option Rv} {a b c e : Expr} {pos : Pos} {rest : List Expr}
theorem tb_td {Q : Bool → Hp → Prop} (h : TB K C f σ H Q) : TD K C f σ H (fun v H' => ∃ k, v = .bl k ∧ Q k H') := by
  obtain ⟨env, fs, E, h⟩ := h
  refine ⟨env, fs, E, h.imp fun rv e H' fs' _ _ _ _ q v rr => ?_⟩
  cases rv with
  | d x =>
    cases x with
    | bool k => exact ⟨k, rr, q⟩
    | none => exact q.elim
    | int i => exact q.elim
    | str s => exact q.elim
    | tuple ds => exact q.elim
    | list ds => exact q.elim
    | dict ds => exact q.elim
  | ow w => exact q.elim
  | bo i => exact q.elim
  | rng lo hi => exact q.elim
theorem dt_val (h : PE X e (TD X.K C f)) (he : ∀ whole, isTrue e X.env whole = (do let v ← whole; standAt e.pos; holding [v] (truthy v)) := by intro _; rfl) : PT X e (TB X.K C f) := PT.imp (pt_val h he) fun _ _ _ q => tb_td q
theorem dt_cmp {op : CmpOp} (ho : OpR X (compareOp op) r) (hg : OpD X.K r g) (ha : PE X a (TD X.K C fa)) (hb : PE X b (TD X.K C fb)) (hm : behindInMarks op b = false) : PT X (.Compare a [op] [b] pos) (TB X.K C (dBin g fa fb)) :=
  PT.imp (pt_cmpR ho ha hb hm) fun _ _ _ h => td_bin hg (tb_td h)
def dNot (fa : De) : De := fun env => (fa env).bind fun r e => match r with
  | .d (.bool b) => .ok (.d (.bool (!b))) e
  | _ => .bad
def onB {α : Type} (r : Rv) (t f : Res α) : Res α := match r with
  | .d (.bool true) => t
  | .d (.bool false) => f
  | _ => .bad
def dAnd (fa fb : De) : De := fun env => (fa env).bind fun r e => onB r (fb e) (.ok (.d (.bool false)) e)
def dOr (fa fb : De) : De := fun env => (fa env).bind fun r e => onB r (.ok (.d (.bool true)) e) (fb e)
def dIf (ft fa fb : De) : De := fun env => (ft env).bind fun r e => onB r (fa e) (fb e)
theorem After.bool {α : Type} {fs : List (List Addr)} {σ : L2.St} {r : Res Rv} {k : Rv → List Sl → Res α} {Q : α → List Sl → Hp → List (List Addr) → Prop} (h : After K C σ H fs (r.bind k) Q)
    (hk : ∀ rv e, (∀ b, rv ≠ .d (.bool b)) → k rv e = .bad) : After K C σ H fs r fun rv e H1 fs1 => match rv with
      | .d (.bool b) => After K C σ H1 fs1 (k (.d (.bool b)) e) Q
      | _ => False := h.bind.imp fun rv e H1 fs1 _ _ _ _ q => by
  have no : (∀ b, rv ≠ .d (.bool b)) → False := fun z => by rw [hk rv e z] at q; exact q
  cases rv with
  | d x =>
    cases x with
    | bool k => exact q
    | none => exact no fun b z => by cases z
    | int i => exact no fun b z => by cases z
    | str s => exact no fun b z => by cases z
    | tuple ds => exact no fun b z => by cases z
    | list ds => exact no fun b z => by cases z
    | dict ds => exact no fun b z => by cases z
  | ow w => exact no fun b z => by cases z
  | bo i => exact no fun b z => by cases z
  | rng lo hi => exact no fun b z => by cases z
/-- from a test's reading on -/
theorem tb_on {fs : List (List Addr)} {env : List Sl} (E : ER K C env σ H fs) {Q : Bool → Hp → Prop}
    (h : After K C σ H fs (f env) fun rv e H1 fs1 => match rv with
      | .d (.bool b) => Stp fs.flatten H H1 → ER K C e σ H1 fs1 → Q b H1
      | _ => False) : TB K C f σ H Q := ⟨env, fs, E, h.imp fun rv e H1 fs1 _ p s E1 q => by
  cases rv with
  | d x =>
    cases x with
    | bool k => exact q p E1
    | none => exact q
    | int i => exact q
    | str s => exact q
    | tuple ds => exact q
    | list ds => exact q
    | dict ds => exact q
  | ow w => exact q
  | bo i => exact q
  | rng lo hi => exact q⟩
theorem dt_not (ha : PT X a (TB X.K C fa)) : PT X (.UnaryOp .Not a pos) (TB X.K C (dNot fa)) := PT.imp (pt_not ha) fun σ H Q h => by
  obtain ⟨env, fs, E, h⟩ := h
  refine tb_on E ((After.bool h fun rv e z => ?_).imp fun rv e H1 fs1 _ p s E1 q => ?_)
  · cases rv with
    | d x => cases x <;> first | rfl | exact absurd rfl (z _)
    | ow w => rfl
    | bo i => rfl
    | rng lo hi => rfl
  · match rv, q with
    | .d (.bool b), q => exact fun _ _ => q H1 fs1 .refl .refl E1
theorem bool_bad {α : Type} (k1 k2 : Res α) (rv : Rv) (z : ∀ b, rv ≠ .d (.bool b)) : onB rv k1 k2 = .bad := by
  cases rv with
  | d x => cases x <;> first | rfl | exact absurd rfl (z _)
  | ow w => rfl
  | bo i => rfl
  | rng lo hi => rfl
theorem dw_one {op : BoolOp} (ha : PT X a (TB X.K C fa)) : PW X (.BoolOp op [a] pos) (TB X.K C fa) := by
  cases op with
  | And => exact pw_and1 ha
  | Or => exact pw_or1 ha
theorem dw_and (ha : PT X a (TB X.K C fa)) (hb : PW X (.BoolOp .And (b :: rest) pos) (TB X.K C fb)) : PW X (.BoolOp .And (a :: b :: rest) pos) (TB X.K C (dAnd fa fb)) := PW.imp (pw_and ha hb) fun σ H Q h => by
  obtain ⟨env, fs, E, h⟩ := h
  refine tb_on E ((After.bool h fun rv e z => bool_bad _ _ rv z).imp fun rv e H1 fs1 _ p s E1 q => ?_)
  match rv, q with
  | .d (.bool true), q => exact fun _ _ => ⟨e, fs1, E1, q⟩
  | .d (.bool false), q => exact fun _ _ => q H1 fs1 .refl .refl E1
theorem dw_or (ha : PT X a (TB X.K C fa)) (hb : PW X (.BoolOp .Or (b :: rest) pos) (TB X.K C fb)) : PW X (.BoolOp .Or (a :: b :: rest) pos) (TB X.K C (dOr fa fb)) := PW.imp (pw_or ha hb) fun σ H Q h => by
  obtain ⟨env, fs, E, h⟩ := h
  refine tb_on E ((After.bool h fun rv e z => bool_bad _ _ rv z).imp fun rv e H1 fs1 _ p s E1 q => ?_)
  match rv, q with
  | .d (.bool true), q => exact fun _ _ => q H1 fs1 .refl .refl E1
  | .d (.bool false), q => exact fun _ _ => ⟨e, fs1, E1, q⟩
theorem dt_bool (h : PW X e (TB X.K C f)) : PT X e (TB X.K C f) := h.pt
/-! #### as values -/
theorem td_back {env : List Sl} {fs : List (List Addr)} {H1 : Hp} {fs1 : List (List Addr)} {Q : VK} (t : ∀ a, H a ≠ none → H1 a ≠ none) {r : Res Rv}
    (h : After K C σ H1 fs1 r fun rv _ H' fs' => ∀ v, RvR K H σ H' fs' rv v → Q v H') : After K C σ H1 fs1 r fun rv _ H' fs' => ∀ v, RvR K H1 σ H' fs' rv v → Q v H' :=
  h.imp fun _ _ _ _ _ _ _ _ q v rr => q v (rr.back t)
theorem td_bool {k1 k2 : De} {Q : VK} (h : TD K C (fun env => (fa env).bind fun r e => onB r (k1 e) (k2 e)) σ H Q) :
    ∃ env fs, ER K C env σ H fs ∧ After K C σ H fs (fa env) fun rv _ H1 _ => match rv with
      | .d (.bool true) => TD K C k1 σ H1 Q
      | .d (.bool false) => TD K C k2 σ H1 Q
      | _ => False := by
  obtain ⟨env, fs, E, h⟩ := h
  refine ⟨env, fs, E, (After.bool h fun rv e z => bool_bad _ _ rv z).imp fun rv e H1 fs1 _ p s E1 q => ?_⟩
  match rv, q with
  | .d (.bool true), q => exact ⟨e, fs1, E1, td_back (env := e) (fs := fs1) p.there q⟩
  | .d (.bool false), q => exact ⟨e, fs1, E1, td_back (env := e) (fs := fs1) p.there q⟩
theorem td_val2 {env : List Sl} {fs : List (List Addr)} (E : ER K C env σ H fs) {P1 P2 : Hp → Prop} {Q : VK} (h : After K C σ H fs (fa env) fun rv _ H1 _ => match rv with
      | .d (.bool true) => P1 H1
      | .d (.bool false) => P2 H1
      | _ => False) (hQ : ∀ (k : Bool) H1, (if k = true then P1 H1 else P2 H1) → Q (.bl k) H1) : TD K C fa σ H Q :=
  ⟨env, fs, E, h.imp fun rv e H1 fs1 _ p s E1 q v rr => by
    match rv, q, rr with
    | .d (.bool true), q, rr => rw [show v = V.bl true from rr]; exact hQ true H1 q
    | .d (.bool false), q, rr => rw [show v = V.bl false from rr]; exact hQ false H1 q⟩
theorem td_cb {b : Bool} {Q : VK} (h : TD K C (fun e => .ok (.d (.bool b)) e) σ H Q) : Q (.bl b) H := by
  obtain ⟨env, fs, E, h⟩ := h
  exact h H fs .refl .refl E _ rfl
theorem de_one {op} {t : TE} (h : PE X a t) : PE X (.BoolOp op [a] pos) t := pe_one h
theorem de_and (ha : PE X a (TD X.K C fa)) (hb : PE X (.BoolOp .And (b :: rest) pos) (TD X.K C fb)) : PE X (.BoolOp .And (a :: b :: rest) pos) (TD X.K C (dAnd fa fb)) := PE.imp (pe_and ha hb) fun σ H Q h => by
  obtain ⟨env, fs, E, h⟩ := td_bool (k1 := fb) (k2 := fun e => .ok (.d (.bool false)) e) h
  exact td_val2 E h fun k H1 q => ⟨k, rfl, by
    cases k with
    | true => exact q
    | false => exact td_cb q⟩
theorem de_or (ha : PE X a (TD X.K C fa)) (hb : PE X (.BoolOp .Or (b :: rest) pos) (TD X.K C fb)) : PE X (.BoolOp .Or (a :: b :: rest) pos) (TD X.K C (dOr fa fb)) := PE.imp (pe_or ha hb) fun σ H Q h => by
  obtain ⟨env, fs, E, h⟩ := td_bool (k1 := fun e => .ok (.d (.bool true)) e) (k2 := fb) h
  exact td_val2 E h fun k H1 q => ⟨k, rfl, by
    cases k with
    | true => exact td_cb q
    | false => exact q⟩
theorem de_not (ha : PE X a (TD X.K C fa)) : PE X (.UnaryOp .Not a pos) (TD X.K C (dNot fa)) := PE.imp (pe_not ha) fun σ H Q h => by
  obtain ⟨env, fs, E, h⟩ := h
  refine ⟨env, fs, E, (After.bool h fun rv e z => ?_).imp fun rv e H1 fs1 _ p s E1 q v rr => ?_⟩
  · cases rv with
    | d x => cases x <;> first | rfl | exact absurd rfl (z _)
    | ow w => rfl
    | bo i => rfl
    | rng lo hi => rfl
  · match rv, q, rr with
    | .d (.bool b), q, rr => exact ⟨b, rr, q H1 fs1 .refl .refl E1 _ rfl⟩
theorem tb_bool {k1 k2 : De} {Q : VK} (h : TD K C (fun env => (fa env).bind fun r e => onB r (k1 e) (k2 e)) σ H Q) :
    TB K C fa σ H (fun k H1 => if k = true then TD K C k1 σ H1 Q else TD K C k2 σ H1 Q) := by
  obtain ⟨env, fs, E, h⟩ := td_bool h
  refine ⟨env, fs, E, h.imp fun rv e H1 fs1 _ p s E1 q => ?_⟩
  match rv, q with
  | .d (.bool true), q => exact q
  | .d (.bool false), q => exact q
theorem de_if (hc : PT X c (TB X.K C fc)) (ha : PE X a (TD X.K C fa)) (hb : PE X b (TD X.K C fb)) : PE X (.IfExp c a b pos) (TD X.K C (dIf fc fa fb)) := PE.imp (pe_ifExp hc ha hb) fun σ H Q h => tb_bool h
/-- a op b op' c -/
def dChain (g g' : PyData → PyData → Option Rv) (fa fb fc : De) : De := fun env => (fa env).bind fun ra e1 => (fb e1).bind fun rb e2 => match ra.val e2, rb.val e2 with
  | some x, some y => (match g x y with
    | some (.d (.bool true)) => (fc e2).bind fun rc e3 => (match rb.val e3, rc.val e3 with
      | some y', some z => opt (g' y' z) e3
      | _, _ => .bad)
    | some (.d (.bool false)) => .ok (.d (.bool false)) e2
    | _ => .bad)
  | _, _ => .bad
theorem td_chain (hg : OpD K r g) (hg' : OpD K r' g') {Q : VK} (h : TD K C (dChain g g' fa fb fc) σ H Q) : tChain r r' (TD K C fa) (TD K C fb) (TD K C fc) σ H Q := by
  obtain ⟨env, fs, E, h⟩ := h
  refine ⟨env, fs, E, h.bind.imp fun ra e1 H1 fs1 _ p1 s1 E1 h1 x rx => ?_⟩
  refine ⟨e1, fs1, E1, h1.bind.imp fun rb e2 H2 fs2 _ p2 s2 E2 h2 y ry => ?_⟩
  have rx2 := RvR.step E1 rx p2 s2
  cases hx : ra.val e2 with
  | none => rw [hx] at h2; exact h2.elim
  | some dx =>
    cases hy : rb.val e2 with
    | none => rw [hx, hy] at h2; exact h2.elim
    | some dy =>
      rw [hx, hy] at h2; dsimp only at h2
      cases hz : g dx dy with
      | none => rw [hz] at h2; exact h2.elim
      | some rv =>
        rw [hz] at h2
        refine hg H2 dx dy x y rv _ (RvR.tp E2 rx2 hx) (RvR.tp E2 ry hy) hz fun v H3 n => ?_
        obtain ⟨p3, E3, r3⟩ := n.out E2
        match rv, h2, r3 with
        | .d (.bool true), h2, r3 =>
          refine ⟨true, r3, ?_⟩
          show TD K C fc σ H3 _
          refine ⟨e2, fs2, E3, ((After.step h2 p3 Sub.refl).bind).imp fun rc e3 H4 fs4 _ p4 s4 E4 h4 z rz => ?_⟩
          have ry4 := RvR.step E3 (RvR.step E2 ry p3 Sub.refl) p4 s4
          cases hy' : rb.val e3 with
          | none => rw [hy'] at h4; exact h4.elim
          | some dy' =>
            cases hw : rc.val e3 with
            | none => rw [hy', hw] at h4; exact h4.elim
            | some dz =>
              rw [hy', hw] at h4; dsimp only at h4
              cases hz' : g' dy' dz with
              | none => rw [show opt (g' dy' dz) e3 = .bad by rw [hz']; rfl] at h4; exact h4.elim
              | some rv' =>
                rw [show opt (g' dy' dz) e3 = .ok rv' e3 by rw [hz']; rfl] at h4
                refine hg' H4 dy' dz y z rv' Q (RvR.tp E4 ry4 hy') (RvR.tp E4 rz hw) hz' fun v' H5 n' => ?_
                obtain ⟨p5, E5, r5⟩ := n'.out E4
                exact h4 H5 fs4 p5 Sub.refl E5 v' (r5.back fun a q => p4.there a (p3.there a (p2.there a (p1.there a q))))
        | .d (.bool false), h2, r3 =>
          refine ⟨false, r3, ?_⟩
          exact h2 H3 fs2 p3 .refl E3 _ rfl
theorem de_chain {op op' : CmpOp} (ho : OpR X (compareOp op) r) (ho' : OpR X (compareOp op') r') (hg : OpD X.K r g) (hg' : OpD X.K r' g') (ha : PE X a (TD X.K C fa)) (hb : PE X b (TD X.K C fb)) (hc : PE X c (TD X.K C fc))
    (hm : lastMarks [op, op'] [b, c] = false := by with_unfolding_all rfl) : PE X (.Compare a [op, op'] [b, c] pos) (TD X.K C (dChain g g' fa fb fc)) := PE.imp (pe_chain ho ho' ha hb hc hm) fun _ _ _ h => td_chain hg hg' h
theorem dt_chain {op op' : CmpOp} (ho : OpR X (compareOp op) r) (ho' : OpR X (compareOp op') r') (hg : OpD X.K r g) (hg' : OpD X.K r' g') (ha : PE X a (TD X.K C fa)) (hb : PE X b (TD X.K C fb)) (hc : PE X c (TD X.K C fc))
    (hm : lastMarks [op, op'] [b, c] = false := by with_unfolding_all rfl) : PT X (.Compare a [op, op'] [b, c] pos) (TB X.K C (dChain g g' fa fb fc)) := PT.imp (pt_chain ho ho' ha hb hc hm) fun _ _ _ h => td_chain hg hg' (tb_td h)
end
end Dn

set_option Elab.async false
set_option linter.all false
set_option maxRecDepth 100000
set_option maxHeartbeats 4000000
namespace Dn
open PySem PySem.Spec PyProof.Rows L2
/-! ### arguments -/
abbrev DeL := List Sl → Res (List Rv)
def RvRL (K : PySem.W.Frag) (Hs : Hp) (σ : L2.St) (H : Hp) (fs : List (List Addr)) : List Rv → List V → Prop
  | [], vs => vs = []
  | r :: rs, vs => ∃ v ws, vs = v :: ws ∧ RvR K Hs σ H fs r v ∧ RvRL K Hs σ H fs rs ws
def TAD (K : PySem.W.Frag) (C : Fr) (f : DeL) : TA := fun σ H Q => ∃ env fs, ER K C env σ H fs ∧ After K C σ H fs (f env) fun rvs _ H' fs' => ∀ vs, RvRL K H σ H' fs' rvs vs → Q vs H'
def dNil : DeL := fun env => .ok [] env
def dCons (fa : De) (fr : DeL) : DeL := fun env => (fa env).bind fun r e1 => (fr e1).bind fun rs e2 => .ok (r :: rs) e2
section
variable {K : PySem.W.Frag} {X : Cx} {C : Fr} {f fa fb fc : De} {fr : DeL} {σ : L2.St} {H H' : Hp} {a b c e : Expr} {es : List Expr} {pos : Pos} {env : List Sl} {fs fs' : List (List Addr)}
theorem RvRL.back {Hs Hs' : Hp} (t : ∀ a, Hs' a ≠ none → Hs a ≠ none) : ∀ {rs : List Rv} {vs : List V}, RvRL K Hs σ H fs rs vs → RvRL K Hs' σ H fs rs vs
  | [], _, h => h
  | r :: rs, _, ⟨v, ws, e, h, q⟩ => ⟨v, ws, e, h.back t, RvRL.back t q⟩
theorem da_nil : PA X [] (TAD X.K C dNil) := PA.imp pa_nil fun σ H Q h => by
  obtain ⟨env, fs, E, h⟩ := h
  exact h H fs .refl .refl E [] rfl
theorem da_cons (ha : PE X e (TD X.K C fa)) (hr : PA X es (TAD X.K C fr)) (hs : starEach (e :: es) X.env = (false, eval e X.env) :: starEach es X.env := by rfl) : PA X (e :: es) (TAD X.K C (dCons fa fr)) := PA.imp (pa_cons ha hr hs) fun σ H Q h => by
  obtain ⟨env, fs, E, h⟩ := h
  refine ⟨env, fs, E, h.bind.imp fun ra e1 H1 fs1 _ p1 s1 E1 h1 x rx => ?_⟩
  refine ⟨e1, fs1, E1, h1.bind.imp fun rs e2 H2 fs2 _ p2 s2 E2 h2 ws rw => ?_⟩
  exact h2 H2 fs2 .refl .refl E2 _ ⟨x, ws, rfl, RvR.step E1 rx p2 s2, rw.back p1.there⟩
def vals? (env : List Sl) : List Rv → Option (List PyData)
  | [] => some []
  | r :: rs => match r.val env, vals? env rs with
    | some x, some xs => some (x :: xs)
    | _, _ => none
theorem RvRL.tp {Hs : Hp} (E : ER K C env σ H fs) : ∀ {rs : List Rv} {vs : List V} {xs : List PyData}, RvRL K Hs σ H fs rs vs → vals? env rs = some xs → TpL K H xs vs
  | [], _, _, h, e => by cases e; exact h
  | r :: rs, _, _, ⟨v, ws, e, h, q⟩, z => by
    unfold vals? at z
    cases hx : r.val env with
    | none => rw [hx] at z; cases z
    | some x =>
      cases hy : vals? env rs with
      | none => rw [hx, hy] at z; cases z
      | some xs => rw [hx, hy] at z; cases z; exact ⟨v, ws, e, h.tp E hx, RvRL.tp E q hy⟩
def dCallB (g : List PyData → Option Rv) (fa : DeL) : De := fun env => (fa env).bind fun rs e => match vals? e rs with
  | some xs => opt (g xs) e
  | none => .bad
theorem td_callB {r : List V → Hp → VK → Prop} {g : List PyData → Option Rv} (hg : CallD K r g) {Q : VK} (h : TD K C (dCallB g fr) σ H Q) : tCB r (TAD K C fr) σ H Q := by
  obtain ⟨env, fs, E, h⟩ := h
  refine ⟨env, fs, E, h.bind.imp fun rs e1 H1 fs1 _ p1 s1 E1 h1 vs rv => ?_⟩
  cases hx : vals? e1 rs with
  | none => rw [hx] at h1; exact h1.elim
  | some xs =>
    rw [hx] at h1; dsimp only at h1
    cases hz : g xs with
    | none => rw [show opt (g xs) e1 = .bad by rw [hz]; rfl] at h1; exact h1.elim
    | some z =>
      rw [show opt (g xs) e1 = .ok z e1 by rw [hz]; rfl] at h1
      refine hg H1 xs vs z Q (rv.tp E1 hx) hz fun v H' n => ?_
      obtain ⟨p, E', r'⟩ := n.out E1
      exact h1 H' fs1 p Sub.refl E' v (r'.back p1.there)
theorem de_callB {x : Str} {p : Pos} {id : String} {r : List V → Hp → VK → Prop} {g : List PyData → Option Rv} (hc : CallR X (.builtin id) r) (hg : CallD X.K r g) (hn : Gl X x) (hm : X.mg x = none) (hv : bootBuiltins x = some (.builtin id)) (ha : PA X (e :: es) (TAD X.K C fr))
    (hne : x ≠ "__name__" := by decide) (hdb : (x == ("__debug__" : Str)) = false := by decide) (h1 : starEach (e :: es) X.env = (false, eval e X.env) :: starEach es X.env := by rfl) (h2 : (backTo pos (starEach es X.env)).any (·.1) = false := by rfl) : PE X (.Call (.Name x p) (e :: es) [] pos) (TD X.K C (dCallB g fr)) :=
  PE.imp (pe_callB hc hn hm hv ha hne hdb h1 h2) fun _ _ _ h => td_callB hg h
theorem de_callTy {x : Str} {p : Pos} {id : String} {r : List V → Hp → VK → Prop} {g : List PyData → Option Rv} (hc : CallR X (.type id) r) (hg : CallD X.K r g) (hn : Gl X x) (hm : X.mg x = none) (hv : bootBuiltins x = some (.type id)) (ha : PA X (e :: es) (TAD X.K C fr))
    (hne : x ≠ "__name__" := by decide) (hdb : (x == ("__debug__" : Str)) = false := by decide) (h1 : starEach (e :: es) X.env = (false, eval e X.env) :: starEach es X.env := by rfl) (h2 : (backTo pos (starEach es X.env)).any (·.1) = false := by rfl) : PE X (.Call (.Name x p) (e :: es) [] pos) (TD X.K C (dCallB g fr)) :=
  PE.imp (pe_callTy hc hn hm hv ha hne hdb h1 h2) fun _ _ _ h => td_callB hg h

/-! ### freezing -/
theorem ownne {a b : Addr} {u : HO} (h : H a = some u) (w : wr u = true) (q : H b = some (.own a)) : b ≠ a := fun z => by
  rw [z, h] at q; cases q; cases w
theorem inv_freeze {pins : List (Addr × Obj)} {s : Shared} {a : Addr} {u : HO} (I : Inv X pins σ H s) (h : H a = some u) (w : wr u = true) : ∃ o, Inv X pins σ (upd H a (.frz o u)) s := by
  have ok := I.hok a u h
  obtain ⟨o, ho⟩ : ∃ o, s.heap.get? a = some o := by
    cases u with
    | lst xs => obtain ⟨_, _, _, _, e⟩ := ok; exact ⟨_, e⟩
    | dK kvs => obtain ⟨_, _, _, _, o, _, _, e, _⟩ := ok; exact ⟨o, e⟩
    | dT kvs => obtain ⟨_, _, _, _, o, _, _, e, _⟩ := ok; exact ⟨o, e⟩
    | tup xs => cases w
    | set S n => cases w
    | ins c d f => cases w
    | own x => cases w
    | xd f => cases w
    | met f x => cases w
    | rng l h => cases w
    | frz o u => cases w
    | tbl p => cases w
    | ext p => cases w
  have ne : ∀ {b : Addr} {u' : HO}, H b = some u' → wr u' = false → b ≠ a := fun {b u'} q z e => by
    rw [e, h] at q; cases q; rw [w] at z; cases z
  have U : Un X.fs [] H (upd H a (.frz o u)) s.heap s.heap := {
    keep := fun b o' q _ _ _ => q
    slot := fun b o' q _ _ _ => ⟨o'.slots, q⟩
    free := fun b o' q n _ => by
      rw [upd_ne (fun z => by rw [z, h] at n; cases n)]; exact n
    there := fun b o' q _ => ⟨o', q⟩
    tups := fun b xs q => by rw [upd_ne (ne q rfl)]; exact q
    frzs := fun b o' v q => by rw [upd_ne (ne q rfl)]; exact q
    tbls := fun b ps q => ⟨#[], by rw [upd_ne (ne q rfl), q]; simp⟩ }
  refine ⟨o, I.un (t' := s.toks) U fun b v q => ?_⟩
  have stay : ∀ {b : Addr} {v : HO}, H b = some v → ObjOk X.prog X.w (upd H a (.frz o u)) s.heap b v := fun {b v} z =>
    (I.hok b v z).stay (fun _ _ _ z => z) (fun c hc => by rw [upd_ne (ne hc rfl)]; exact hc) fun c xs hc => by rw [upd_ne (ne hc rfl)]; exact hc
  by_cases hb : b = a
  · subst hb
    rw [upd_same] at q
    cases q
    exact ⟨ho, stay h⟩
  · rw [upd_ne hb] at q
    exact stay q
def tFz (t : TE) : TE := fun σ H Q => t σ H fun v H' => Q v H' ∨ ∃ a u, H' a = some u ∧ wr u = true ∧ ∀ o, Q v (upd H' a (.frz o u))
theorem pe_fz {t : TE} (h : PE X e t) : PE X e (tFz t) := ⟨fun pins s σ H Q I q => thn (h.run pins s σ H _ I q) fun u s' hh => by
  obtain ⟨v, H', I', r, q'⟩ := hh
  rcases q' with q' | ⟨a, w, ha, hw, q'⟩
  · exact ⟨v, H', I', r, q'⟩
  · obtain ⟨o, J⟩ := inv_freeze I' ha hw
    exact ⟨v, _, J, r, q' o⟩⟩
/-- a value that is handed on: what is still written is frozen -/
def sto (r : Rv) (e : List Sl) : Res Rv := match r with
  | .d x => .ok (.d x) e
  | .ow (.lst xs) => .ok (.d (.list xs)) e
  | .ow (.dct []) => .ok (.d (.dict [])) e
  | .bo i => (match e[i]? with
    | some (.ow (.lst xs)) => .ok (.d (.list xs)) (e.set i (.d (.list xs)))
    | some (.d x) => .ok (.d x) e
    | _ => .bad)
  | _ => .bad
def dSto (f : De) : De := fun env => (f env).bind sto
theorem im_frz {a : Addr} {u : HO} {o : Obj} (h : H a = some u) (w : wr u = true) : Im H (upd H a (.frz o u)) := fun b v q i => by
  rw [upd_ne (fun z => by rw [z, h] at q; cases q; rw [wr_imm w] at i; cases i)]; exact q
/-- what was fresh since Hs is frozen -/
theorem ER.frzNew (E : ER K C env σ H fs) {a : Addr} {u : HO} {o : Obj} (h : H a = some u) (w : wr u = true) (n : a ∉ fs.flatten) (h0 : C.H0 a = none) : ER K C env σ (upd H a (.frz o u)) fs where
  sl := SlRs.keep (im_frz h w) E.sl fun b hb v q => by rw [upd_ne (fun (z : b = a) => n (by rw [← z]; exact hb))]; exact q
  nd := E.nd
  own := E.own
  kept := fun b v q l t => by
    rw [upd_ne (fun z => by rw [z, h0] at q; cases q)]; exact E.kept b v q l t
  there := fun b q => by
    by_cases z : b = a
    · rw [z, upd_same]; simp
    · rw [upd_ne z]; exact E.there b q
  tabs := Tabs_upd E.tabs h w
  le := E.le
  lf := E.lf
theorem mem_of_get {fs : List (List Addr)} {i : Nat} {A : List Addr} {a : Addr} (h : fs[i]? = some A) (m : a ∈ A) : a ∈ fs.flatten := List.mem_flatten.mpr ⟨A, List.mem_of_getElem? h, m⟩
theorem set_self {α : Type} : ∀ {l : List α} {i : Nat} {x : α}, l[i]? = some x → l.set i x = l
  | [], _, _, h => by simp at h
  | y :: l, 0, x, h => by simp at h; subst h; rfl
  | y :: l, i + 1, x, h => by rw [List.set_cons_succ, set_self (i := i) (by simpa using h)]
theorem le_set {S : L2.St} {i : Nat} {s : Sl} (h : ∀ (j : Nat) (w : Ow), env[j]? = some (Sl.le w) → σ[j]? = S[j]?) (n : ∀ w, s ≠ Sl.le w) : ∀ (j : Nat) (w : Ow), (env.set i s)[j]? = some (Sl.le w) → σ[j]? = S[j]? := fun j w e => by
  by_cases z : i = j
  · subst z
    by_cases l : i < env.length
    · rw [List.getElem?_set_self l] at e; cases e; exact absurd rfl (n w)
    · rw [List.getElem?_eq_none (by simpa using l)] at e; cases e
  · rw [List.getElem?_set_ne z] at e; exact h j w e
theorem lf_set {F : List (List Addr)} {i : Nat} {s : Sl} {A : List Addr} (h : ∀ (j : Nat) (w : Ow), env[j]? = some (Sl.le w) → fs[j]? = F[j]?) (n : ∀ w, s ≠ Sl.le w) : ∀ (j : Nat) (w : Ow), (env.set i s)[j]? = some (Sl.le w) → (fs.set i A)[j]? = F[j]? := fun j w e => by
  by_cases z : i = j
  · subst z
    by_cases l : i < env.length
    · rw [List.getElem?_set_self l] at e; cases e; exact absurd rfl (n w)
    · rw [List.getElem?_eq_none (by simpa using l)] at e; cases e
  · rw [List.getElem?_set_ne z] at e ⊢; exact h j w e
theorem own_set {L : List Addr} {H0 : Hp} {i : Nat} {s : Sl} {A : List Addr} (h : ∀ (i : Nat) (A : List Addr), fs[i]? = some A → ∀ a ∈ A, (H0 a = none ∧ ∀ w, env[i]? ≠ some (Sl.le w)) ∨ (a ∈ L ∧ ∃ w, env[i]? = some (Sl.le w))) (n : ∀ a ∈ A, H0 a = none) (nl : ∀ w, s ≠ Sl.le w) :
    ∀ (j : Nat) (B : List Addr), (fs.set i A)[j]? = some B → ∀ a ∈ B, (H0 a = none ∧ ∀ w, (env.set i s)[j]? ≠ some (Sl.le w)) ∨ (a ∈ L ∧ ∃ w, (env.set i s)[j]? = some (Sl.le w)) := fun j B e a ha => by
  by_cases z : i = j
  · subst z
    by_cases l : i < fs.length
    · rw [List.getElem?_set_self l] at e; cases e
      refine .inl ⟨n a ha, fun w q => ?_⟩
      by_cases l2 : i < env.length
      · rw [List.getElem?_set_self l2] at q; cases q; exact nl w rfl
      · rw [List.getElem?_eq_none (by simpa using l2)] at q; cases q
    · rw [List.getElem?_eq_none (by simpa using l)] at e; cases e
  · rw [List.getElem?_set_ne z] at e ⊢; exact h j B e a ha
/-- a slot's own list is frozen -/
theorem ER.frzOwn (E : ER K C env σ H fs) {i : Nat} {xs : List PyData} (hi : env[i]? = some (.ow (.lst xs))) :
    ∃ a vs, σ[i]? = some (some (.ref a)) ∧ H a = some (.lst vs) ∧ ∀ o, Stp fs.flatten H (upd H a (.frz o (.lst vs))) ∧ ER K C (env.set i (.d (.list xs))) σ (upd H a (.frz o (.lst vs))) (fs.set i []) ∧ Fp K (upd H a (.frz o (.lst vs))) (.list xs) (.ref a) := by
  obtain ⟨ov, A, h1, h2, v, rfl, a, vs, rfl, rfl, e, f⟩ := E.sl.get hi
  refine ⟨a, vs, h1, e, fun o => ?_⟩
  have im : Im H (upd H a (.frz o (.lst vs))) := im_frz e rfl
  have fp : Fp K (upd H a (.frz o (.lst vs))) (.list xs) (.ref a) := ⟨a, vs, rfl, ⟨o, upd_same⟩, FpL.im im _ _ f⟩
  have ap := flat_apart E.nd h2 (List.mem_singleton.mpr rfl)
  refine ⟨⟨fun b u q n t => by rw [upd_ne (fun (z : b = a) => n (by rw [z]; exact mem_of_get h2 (List.mem_singleton.mpr rfl)))]; exact q, fun b q => ?_⟩, ⟨?_, ?_, own_set E.own (fun b hb => by cases hb) (fun w z => by cases z), fun b u q l t => ?_, fun b q => ?_, Tabs_upd E.tabs e rfl, le_set E.le (fun w z => by cases z), lf_set E.lf fun w z => by cases z⟩, fp⟩
  · by_cases z : b = a
    · rw [z, upd_same]; simp
    · rw [upd_ne z]; exact q
  · have q1 : SlRs K H (env.set i .un) (σ.set i (some (.ref a))) (fs.set i []) := SlRs.put (s := .un) (A := []) rfl i E.sl
    rw [set_self h1] at q1
    have q2 := SlRs.keep im q1 fun b hb u q => by rw [upd_ne (fun (z : b = a) => ap (by rw [← z]; exact hb))]; exact q
    have q3 := SlRs.put (s := .d (.list xs)) (o := some (.ref a)) (A := []) ⟨rfl, _, rfl, fp⟩ i q2
    rw [set_self h1, List.set_set, List.set_set] at q3
    exact q3
  · exact nodup_flat_set (by simp) E.nd fun b hb => by cases hb
  · rcases E.ownAny a (mem_of_get h2 (List.mem_singleton.mpr rfl)) with z | z
    · rw [upd_ne (fun y => by rw [y, z] at q; cases q)]; exact E.kept b u q l t
    · rw [upd_ne (fun (y : b = a) => l (by rw [y]; exact z))]; exact E.kept b u q l t
  · by_cases z : b = a
    · rw [z, upd_same]; simp
    · rw [upd_ne z]; exact E.there b q
theorem Stp.frzNew {a : Addr} {u : HO} {o : Obj} (p : Stp fs.flatten H H') (h : H a = none) : Stp fs.flatten H (upd H' a (.frz o u)) :=
  ⟨fun b v q n t => by rw [upd_ne (fun z => by rw [z, h] at q; cases q)]; exact p.keep b v q n t, fun b q => by
    by_cases z : b = a
    · rw [z, upd_same]; simp
    · rw [upd_ne z]; exact p.there b q⟩
theorem td_sto {Q : VK} (h : TD K C (dSto f) σ H Q) : tFz (TD K C f) σ H Q := by
  obtain ⟨env, fs, E, h⟩ := h
  refine ⟨env, fs, E, ?_⟩
  unfold dSto at h
  cases q : f env with
  | bad => rw [q] at h; exact h
  | exc c x e => rw [q] at h; exact h
  | ok rv e =>
    rw [q] at h
    intro H1 fs1 p s E1 v r
    cases rv with
    | d x => exact .inl (h H1 fs1 p s E1 v r)
    | rng lo hi => exact h.elim
    | ow w =>
      obtain ⟨A, o, n, hs⟩ := r
      cases w with
      | deck ks c m t => exact h.elim
      | dct kvs =>
        cases kvs with
        | cons y ys => exact h.elim
        | nil =>
          obtain ⟨a, ks, rfl, rfl, e2, dr⟩ := o
          have ha := hs a (List.mem_singleton.mpr rfl)
          rw [show ks = [] from dr] at e2
          refine .inr ⟨a, _, e2, rfl, fun o => ?_⟩
          refine h _ fs1 (p.frzNew ha) s (E1.frzNew e2 rfl (n a (List.mem_singleton.mpr rfl)) (E.fresh ha)) _ ⟨rfl, a, o, rfl, upd_same⟩
      | lst xs =>
        obtain ⟨a, vs, rfl, rfl, e2, f2⟩ := o
        have ha := hs a (List.mem_singleton.mpr rfl)
        refine .inr ⟨a, _, e2, rfl, fun o => ?_⟩
        exact h _ fs1 (p.frzNew ha) s (E1.frzNew e2 rfl (n a (List.mem_singleton.mpr rfl)) (E.fresh ha)) _ ⟨a, vs, rfl, ⟨o, upd_same⟩, FpL.im (im_frz e2 rfl) _ _ f2⟩
    | bo i =>
      dsimp only [Res.bind, sto] at h
      cases z : e[i]? with
      | none => rw [z] at h; exact h.elim
      | some sl =>
        rw [z] at h
        cases sl with
        | un => exact h.elim
        | d x =>
          obtain ⟨o, A, h1, h2, _, u, rfl, fx⟩ := E1.sl.get z
          rw [show σ[i]? = some (some v) from r] at h1
          cases h1
          exact .inl (h H1 fs1 p s E1 v fx)
        | rng lo hi => exact h.elim
        | scr ns => exact h.elim
        | le w => exact h.elim
        | ow w =>
          cases w with
          | dct kvs => exact h.elim
          | deck ks a b c => exact h.elim
          | lst xs =>
            obtain ⟨a, vs, h1, e2, k⟩ := E1.frzOwn z
            rw [show σ[i]? = some (some v) from r] at h1
            cases h1
            refine .inr ⟨a, _, e2, rfl, fun o => ?_⟩
            obtain ⟨p', E', fp⟩ := k o
            exact h _ _ (p.trans p' s) (Sub.set.trans s) E' _ fp
theorem de_sto (h : PE X e (TD X.K C f)) : PE X e (TD X.K C (dSto f)) := PE.imp (pe_fz h) fun _ _ _ q => td_sto q

/-! ### displays: the items are handed on -/
def datas? : List Rv → Option (List PyData)
  | [] => some []
  | .d x :: r => (datas? r).map (x :: ·)
  | _ => none
theorem datas_fp {Hs : Hp} : ∀ {rs : List Rv} {vs : List V} {xs : List PyData}, RvRL K Hs σ H fs rs vs → datas? rs = some xs → FpL K H xs vs
  | [], _, _, h, e => by cases e; exact h
  | .d x :: rs, _, _, ⟨v, ws, e, h, q⟩, z => by
    simp only [datas?] at z
    cases hy : datas? rs with
    | none => rw [hy] at z; cases z
    | some xs => rw [hy] at z; cases z; exact ⟨v, ws, e, h, datas_fp q hy⟩
  | .ow _ :: _, _, _, _, z => by cases z
  | .bo _ :: _, _, _, _, z => by cases z
  | .rng _ _ :: _, _, _, _, z => by cases z
def dTup (fr : DeL) : De := fun env => (fr env).bind fun rs e => match datas? rs with
  | some xs => if xs.length ≤ lim then .ok (.d (.tuple xs)) e else .bad
  | none => .bad
def dLst (fr : DeL) : De := fun env => (fr env).bind fun rs e => match datas? rs with
  | some xs => if xs.length ≤ lim then .ok (.ow (.lst xs)) e else .bad
  | none => .bad
theorem de_tup {k} (h : PA X es (TAD X.K C fr)) : PE X (.Tuple es k pos) (TD X.K C (dTup fr)) := PE.imp (pe_tup h) fun σ H Q h => by
  obtain ⟨env, fs, E, h⟩ := h
  refine ⟨env, fs, E, h.bind.imp fun rs e1 H1 fs1 _ p1 s1 E1 h1 vs rv => ?_⟩
  cases hx : datas? rs with
  | none => rw [hx] at h1; exact h1.elim
  | some xs =>
    rw [hx] at h1; dsimp only at h1
    split at h1
    · rename_i hl
      have fp := datas_fp rv hx
      refine ⟨by rw [fp.len]; exact lim_size hl, fun p hp => ?_⟩
      obtain ⟨p2, E', r'⟩ := (ne_tup hp fp).out E1
      exact h1 _ fs1 p2 Sub.refl E' _ (r'.back p1.there)
    · exact h1.elim
theorem de_lst (h : PA X es (TAD X.K C fr)) : PE X (.List es pos) (TD X.K C (dLst fr)) := PE.imp (pe_lst h) fun σ H Q h => by
  obtain ⟨env, fs, E, h⟩ := h
  refine ⟨env, fs, E, h.bind.imp fun rs e1 H1 fs1 _ p1 s1 E1 h1 vs rv => ?_⟩
  cases hx : datas? rs with
  | none => rw [hx] at h1; exact h1.elim
  | some xs =>
    rw [hx] at h1; dsimp only at h1
    split at h1
    · rename_i hl
      have fp := datas_fp rv hx
      refine ⟨by rw [fp.len]; exact lim_size hl, fun p hp => ?_⟩
      obtain ⟨p2, E', r'⟩ := (ne_lst hp fp).out E1
      exact h1 _ fs1 p2 Sub.refl E' _ (r'.back p1.there)
    · exact h1.elim
end
end Dn

set_option Elab.async false
set_option linter.all false
set_option maxRecDepth 100000
set_option maxHeartbeats 4000000
namespace Dn
open PySem PySem.Spec PyProof.Rows L2
/-! ### statements -/
inductive SRes where
  | nx (env : List Sl)
  | ret (r : Rv) (env : List Sl)
  | brk (env : List Sl)
  | ct (env : List Sl)
  | exc (c : Str) (x : PyData) (env : List Sl)
  | bad
abbrev Ds := List Sl → SRes
def SAft (K : PySem.W.Frag) (C : Fr) (H : Hp) (r : SRes) (D : Ends) : Prop := match r with
  | .nx e => ∀ σ' H' fs', Im H H' → ER K C e σ' H' fs' → D.nx σ' H'
  | .ct e => ∀ σ' H' fs', Im H H' → ER K C e σ' H' fs' → D.ct σ' H'
  | .brk e => ∀ σ' H' fs', Im H H' → ER K C e σ' H' fs' → D.bk σ' H'
  | .ret rv e => ∀ v σ' H' fs', Im H H' → ER K C e σ' H' fs' → RvR K C.H0 σ' H' fs' rv v → D.rt v H'
  | .exc c x e => ∀ d v σ' H' fs', Im H H' → ER K C e σ' H' fs' → H' d = some (.xd [("thing", v)]) → Fp K H' x v → C.W (.ref (C.cls c)) (some d) σ' H'
  | .bad => False
def TSD (K : PySem.W.Frag) (C : Fr) (g : Ds) : TS := fun D σ H => ∃ env fs, ER K C env σ H fs ∧ SAft K C H (g env) D
def sBind (r : SRes) (k : Ds) : SRes := match r with
  | .nx e => k e
  | r => r
def dSeq (g1 g2 : Ds) : Ds := fun env => sBind (g1 env) g2
def sOf {α : Type} (r : Res α) (k : α → List Sl → SRes) : SRes := match r with
  | .ok a e => k a e
  | .exc c x e => .exc c x e
  | .bad => .bad
section
variable {K : PySem.W.Frag} {X : Cx} {C : Fr} {f fa fb fc : De} {fr : DeL} {g g1 g2 : Ds} {σ σ' : L2.St} {H H' H1 : Hp} {a b c e : Expr} {es : List Expr} {pos : Pos} {env env' : List Sl} {fs fs' fs1 : List (List Addr)} {D : Ends} {r : SRes} {st : Stmt} {rest : List Stmt}
theorem SAft.im (h : SAft K C H r D) (i : Im H H1) : SAft K C H1 r D := by
  cases r with
  | nx e => exact fun σ' H' fs' j E => h σ' H' fs' (i.trans j) E
  | ct e => exact fun σ' H' fs' j E => h σ' H' fs' (i.trans j) E
  | brk e => exact fun σ' H' fs' j E => h σ' H' fs' (i.trans j) E
  | ret rv e => exact fun v σ' H' fs' j E => h v σ' H' fs' (i.trans j) E
  | exc c x e => exact fun d v σ' H' fs' j E => h d v σ' H' fs' (i.trans j) E
  | bad => exact h
/-- from an expression's reading on -/
theorem SAft.of {α : Type} {ra : Res α} {k : α → List Sl → SRes} (E : ER K C env σ H fs) (h : SAft K C H (sOf ra k) D) : After K C σ H fs ra fun a e H1 fs1 => SAft K C H1 (k a e) D := by
  cases ra with
  | ok a e => exact fun H' fs' p s E' => SAft.im (r := k a e) h (E.im p)
  | exc c x e => exact fun d v H' fs' p s E' hd hv => h d v σ H' fs' (E.im p) E' hd hv
  | bad => exact h
theorem tsd_seq (h : TSD K C (dSeq g1 g2) D σ H) : tSeq (TSD K C g1) (TSD K C g2) D σ H := by
  obtain ⟨env, fs, E, h⟩ := h
  refine ⟨env, fs, E, ?_⟩
  unfold dSeq at h
  cases q : g1 env with
  | nx e => rw [q] at h; exact fun σ' H' fs' i E' => ⟨e, fs', E', SAft.im (r := g2 e) h i⟩
  | ct e => rw [q] at h; exact h
  | brk e => rw [q] at h; exact h
  | ret rv e => rw [q] at h; exact h
  | exc c x e => rw [q] at h; exact h
  | bad => rw [q] at h; exact h
theorem dss_cons (h1 : PS X st (TSD X.K C g1)) (h2 : PSs X rest (TSD X.K C g2)) : PSs X (st :: rest) (TSD X.K C (dSeq g1 g2)) := PSs.imp (pss_cons h1 h2) fun _ _ _ h => tsd_seq h
theorem dss_one (h1 : PS X st (TSD X.K C g1)) : PSs X [st] (TSD X.K C g1) := pss_one h1
def dPass : Ds := fun env => .nx env
def dBrk : Ds := fun env => .brk env
def dCt : Ds := fun env => .ct env
theorem td_next (h : TSD K C dPass D σ H) : tNext D σ H := by
  obtain ⟨env, fs, E, h⟩ := h
  exact h σ H fs .refl E
theorem dss_nil : PSs X [] (TSD X.K C dPass) := PSs.imp pss_nil fun _ _ _ h => td_next h
theorem ds_pass : PS X (.Pass pos) (TSD X.K C dPass) := PS.imp ps_pass fun _ _ _ h => td_next h
theorem ds_brk : PS X (.Break pos) (TSD X.K C dBrk) := PS.imp ps_break fun D σ H h => by
  obtain ⟨env, fs, E, h⟩ := h
  exact h σ H fs .refl E
theorem ds_ct : PS X (.Continue pos) (TSD X.K C dCt) := PS.imp ps_continue fun D σ H h => by
  obtain ⟨env, fs, E, h⟩ := h
  exact h σ H fs .refl E
theorem ds_doc {x j pos pos'} : PS X (.Expr (.Constant (.str x) j pos) pos') (TSD X.K C dPass) := PS.imp ps_doc fun _ _ _ h => td_next h
def dRet (f : De) : Ds := fun env => sOf (f env) fun r e => .ret r e
theorem ds_ret (h : PE X e (TD X.K C f)) : PS X (.Return (some e) pos) (TSD X.K C (dRet f)) := PS.imp (ps_ret h) fun D σ H h => by
  obtain ⟨env, fs, E, h⟩ := h
  exact ⟨env, fs, E, (h.of E).imp fun rv e H1 fs1 _ p s E1 q v rr => q v σ H1 fs1 .refl E1 (rr.back E.there)⟩
def dRetN : Ds := fun env => .ret (.d .none) env
theorem ds_retN : PS X (.Return none pos) (TSD X.K C dRetN) := PS.imp ps_retN fun D σ H h => by
  obtain ⟨env, fs, E, h⟩ := h
  exact h _ σ H fs .refl E rfl
def dDrop (f : De) : Ds := fun env => sOf (f env) fun _ e => .nx e
theorem tsd_drop (h : TSD K C (dDrop f) D σ H) : tDrop (TD K C f) D σ H := by
  obtain ⟨env, fs, E, h⟩ := h
  exact ⟨env, fs, E, (h.of E).imp fun rv e H1 fs1 _ p s E1 q v rr => q σ H1 fs1 .refl E1⟩
theorem ds_expr (h : PE X e (TD X.K C f)) (hs : swapsWith e none pos.line X.env = pure false := by rfl) : PS X (.Expr e pos) (TSD X.K C (dDrop f)) := PS.imp (ps_expr h hs) fun _ _ _ h => tsd_drop h
def dIfS (f : De) (g1 g2 : Ds) : Ds := fun env => sOf (f env) fun r e => match r with
  | .d (.bool true) => g1 e
  | .d (.bool false) => g2 e
  | _ => .bad
theorem ds_if {A B : List Stmt} (hc : PT X c (TB X.K C f)) (ha : PSs X A (TSD X.K C g1)) (hb : PSs X B (TSD X.K C g2)) : PS X (.If c A B pos) (TSD X.K C (dIfS f g1 g2)) := PS.imp (ps_if hc ha hb) fun D σ H h => by
  obtain ⟨env, fs, E, h⟩ := h
  refine ⟨env, fs, E, (h.of E).imp fun rv e H1 fs1 _ p s E1 q => ?_⟩
  cases rv with
  | d x =>
    cases x with
    | bool k =>
      cases k with
      | true => exact ⟨e, fs1, E1, q⟩
      | false => exact ⟨e, fs1, E1, q⟩
    | none => exact q
    | int i => exact q
    | str s => exact q
    | tuple ds => exact q
    | list ds => exact q
    | dict ds => exact q
  | ow w => exact q
  | bo i => exact q
  | rng lo hi => exact q
/-! #### a name stored -/
/-- what a name may hold: a borrowed object is frozen -/
def stb (r : Rv) (e : List Sl) : Res Rv := match r with
  | .bo i => sto (.bo i) e
  | r => .ok r e
def dStb (f : De) : De := fun env => (f env).bind stb
theorem td_stb {Q : VK} (h : TD K C (dStb f) σ H Q) : tFz (TD K C f) σ H Q := by
  obtain ⟨env, fs, E, h⟩ := h
  cases q : f env with
  | bad => refine ⟨env, fs, E, ?_⟩; unfold dStb at h; rw [q] at h ⊢; exact h
  | exc c x e => refine ⟨env, fs, E, ?_⟩; unfold dStb at h; rw [q] at h ⊢; exact h
  | ok rv e =>
    by_cases z : ∃ i, rv = .bo i
    · obtain ⟨i, rfl⟩ := z
      refine td_sto ⟨env, fs, E, ?_⟩
      unfold dStb at h; unfold dSto
      rw [q] at h ⊢
      exact h
    · refine ⟨env, fs, E, ?_⟩
      unfold dStb at h
      rw [q] at h ⊢
      cases rv with
      | bo i => exact absurd ⟨i, rfl⟩ z
      | d x => exact fun H1 fs1 p s E1 v r => .inl (h H1 fs1 p s E1 v r)
      | ow w => exact fun H1 fs1 p s E1 v r => .inl (h H1 fs1 p s E1 v r)
      | rng lo hi => exact fun H1 fs1 p s E1 v r => .inl (h H1 fs1 p s E1 v r)
theorem de_stb (h : PE X e (TD X.K C f)) : PE X e (TD X.K C (dStb f)) := PE.imp (pe_fz h) fun _ _ _ q => td_stb q
def slot? : Rv → Option Sl
  | .d x => some (.d x)
  | .ow w => some (.ow w)
  | .rng lo hi => some (.rng lo hi)
  | .bo _ => none
def dSet (i : Nat) (f : De) : Ds := fun env => sOf (f env) fun r e => match slot? r with
  | some s => .nx (e.set i s)
  | none => .bad
/-- a slot takes a new value -/
theorem ER.put (E : ER K C env σ H fs) {i : Nat} {s : Sl} {o : Option V} {A : List Addr} (h : SlR K H s o A) (nA : A.Nodup) (ap : ∀ a ∈ A, a ∉ fs.flatten) (h0 : ∀ a ∈ A, C.H0 a = none) (nl : ∀ w, s ≠ Sl.le w := by intro w z; cases z) : ER K C (env.set i s) (σ.set i o) H (fs.set i A) where
  sl := SlRs.put h i E.sl
  nd := nodup_flat_set nA E.nd ap
  own := own_set E.own h0 nl
  kept := E.kept
  there := E.there
  tabs := E.tabs
  le := fun j w e => by
    by_cases z : i = j
    · subst z
      by_cases l : i < env.length
      · rw [List.getElem?_set_self l] at e; cases e; exact absurd rfl (nl w)
      · rw [List.getElem?_eq_none (by simpa using l)] at e; cases e
    · rw [List.getElem?_set_ne z] at e; rw [List.getElem?_set_ne z]; exact E.le j w e
  lf := lf_set E.lf nl
theorem ER.putRv (E : ER K C env σ H fs) {Hs : Hp} (t : ∀ a, C.H0 a ≠ none → Hs a ≠ none) {i : Nat} {s : Sl} {rv : Rv} {v : V} (hs : slot? rv = some s) (r : RvR K Hs σ H fs rv v) : ∃ A, ER K C (env.set i s) (σ.set i (some v)) H (fs.set i A) := by
  cases rv with
  | d x => cases hs; exact ⟨[], E.put ⟨rfl, v, rfl, r⟩ (by simp) (fun a h => by cases h) fun a h => by cases h⟩
  | ow w =>
    cases hs
    obtain ⟨A, o, n, h⟩ := r
    exact ⟨A, E.put ⟨v, rfl, o⟩ o.nodup n fun a ha => Classical.byContradiction fun z => t a z (h a ha)⟩
  | rng lo hi => cases hs; obtain ⟨a, e, h⟩ := r; exact ⟨[], E.put ⟨rfl, a, by rw [e], h⟩ (by simp) (fun a h => by cases h) fun a h => by cases h⟩
  | bo i => cases hs
theorem tsd_set {i : Nat} (h : TSD K C (dSet i f) D σ H) : tAsg (TD K C f) (gName i) D σ H := by
  obtain ⟨env, fs, E, h⟩ := h
  refine ⟨env, fs, E, (h.of E).imp fun rv e H1 fs1 _ p s E1 q v rr => ?_⟩
  cases hs : slot? rv with
  | none => rw [hs] at q; exact q.elim
  | some sl =>
    rw [hs] at q
    obtain ⟨A, E2⟩ := E1.putRv (i := i) (s := sl) E.there hs rr
    exact q _ H1 _ .refl E2
theorem ds_set {i : Nat} {x : Str} {pos' : Pos} (hN : X.N.Nodup) (hi : X.N[i]? = some x) (hx : Loc X.env.scope x) (he : PE X e (TD X.K C f)) (hs : swapsWith e (some (.Name x pos')) pos.line X.env = pure false := by rfl)
    (hf : X.fn x = true ∨ X.env.scope.names.lookup x = some .local := by first | exact .inl rfl | exact .inr rfl | assumption) : PS X (.Assign [.Name x pos'] e pos) (TSD X.K C (dSet i f)) :=
  PS.imp (ps_set hN hi hx he hs hf) fun _ _ _ h => tsd_set h
/-! #### targets of data -/
abbrev Put := PyData → List Sl → Option (List Sl)
def pName (i : Nat) : Put := fun d e => some (e.set i (.d d))
/-- vs: the places that the target stores to -/
def TGD (K : PySem.W.Frag) (C : Fr) (p : Put) (vs : List Nat) : TG := fun v σ H Q => ∃ env fs d, ER K C env σ H fs ∧ Fp K H d v ∧ match p d env with
  | some env' => ∀ σ' fs', ER K C env' σ' H fs' → Sub fs' fs → σ'.length = σ.length → (∀ i, i ∉ vs → σ'[i]? = σ[i]?) → Q σ' H
  | none => False
theorem PG.imp {tg : Expr} {t t' : TG} (h : PG X tg t) (i : ∀ v σ H Q, t' v σ H Q → t v σ H Q) : PG X tg t' := ⟨fun pins s σ H v u Q I r q => h.run pins s σ H v u Q I r (i v σ H Q q)⟩
theorem PGs.imp {tg : List Expr} {t t' : TGs} (h : PGs X tg t) (i : ∀ v σ H Q, t' v σ H Q → t v σ H Q) : PGs X tg t' := ⟨fun pins s σ H v u Q I r q => h.run pins s σ H v u Q I r (i v σ H Q q)⟩
theorem dg_name {i : Nat} {x : Str} (hN : X.N.Nodup) (hi : X.N[i]? = some x) (hx : Loc X.env.scope x) (hf : X.fn x = true ∨ X.env.scope.names.lookup x = some .local := by first | exact .inl rfl | exact .inr rfl | assumption) : PG X (.Name x pos) (TGD X.K C (pName i) [i]) :=
  PG.imp (pg_name hN hi hx hf) fun v σ H Q h => by
    obtain ⟨env, fs, d, E, fp, h⟩ := h
    exact h (σ.set i (some v)) _ (E.put (i := i) (s := .d d) (A := []) ⟨rfl, v, rfl, fp⟩ (by simp) (fun a h => by cases h) fun a h => by cases h) Sub.set (by simp) fun j hj => by rw [List.getElem?_set_ne (fun z => hj (by simp [z]))]
abbrev PutL := List PyData → List Sl → Option (List Sl)
def pNil : PutL := fun ds e => match ds with | [] => some e | _ => none
def pCons (p : Put) (q : PutL) : PutL := fun ds e => match ds with
  | d :: r => (p d e).bind (q r)
  | [] => none
def TGDs (K : PySem.W.Frag) (C : Fr) (p : PutL) (vs : List Nat) : TGs := fun us σ H Q => ∃ env fs ds, ER K C env σ H fs ∧ FpL K H ds us ∧ match p ds env with
  | some env' => ∀ σ' fs', ER K C env' σ' H fs' → Sub fs' fs → σ'.length = σ.length → (∀ i, i ∉ vs → σ'[i]? = σ[i]?) → Q σ' H
  | none => False
theorem dgs_nil : PGs X [] (TGDs X.K C pNil []) := PGs.imp pgs_nil fun us σ H Q h => by
  obtain ⟨env, fs, ds, E, fp, h⟩ := h
  cases ds with
  | nil => exact ⟨fp, h σ fs E Sub.refl rfl fun _ _ => rfl⟩
  | cons d ds => exact h.elim
theorem dgs_cons {p : Put} {q : PutL} {v1 v2 : List Nat} (h1 : PG X e (TGD X.K C p v1)) (h2 : PGs X es (TGDs X.K C q v2)) (hs : (assignEach (e :: es) X.env).map (·.2) = assign e X.env :: (assignEach es X.env).map (·.2) := by rfl) :
    PGs X (e :: es) (TGDs X.K C (pCons p q) (v1 ++ v2)) := PGs.imp (pgs_cons h1 h2 hs) fun us σ H Q h => by
  obtain ⟨env, fs, ds, E, fp, h⟩ := h
  cases ds with
  | nil => exact h.elim
  | cons d ds =>
    obtain ⟨v, r, rfl, f1, f2⟩ := fp
    refine ⟨v, r, rfl, env, fs, d, E, f1, ?_⟩
    dsimp only [pCons] at h
    cases z : p d env with
    | none => rw [z] at h; exact h.elim
    | some e1 =>
      rw [z] at h
      intro σ1 fs1 E1 b1 l1 k1
      refine ⟨e1, fs1, ds, E1, f2, ?_⟩
      dsimp only [Option.bind] at h
      cases z2 : q ds e1 with
      | none => rw [z2] at h; exact h.elim
      | some e2 =>
        rw [z2] at h
        exact fun σ2 fs2 E2 b2 l2 k2 => h σ2 fs2 E2 (b2.trans b1) (l2.trans l1) fun i hi => (k2 i fun y => hi (List.mem_append_right _ y)).trans (k1 i fun y => hi (List.mem_append_left _ y))
def pTup (n : Nat) (q : PutL) : Put := fun d e => match d with
  | .tuple ds => if ds.length = n then q ds e else none
  | .list ds => if ds.length = n then q ds e else none
  | _ => none
end
end Dn

set_option Elab.async false
set_option linter.all false
set_option maxRecDepth 100000
set_option maxHeartbeats 4000000
namespace Dn
open PySem PySem.Spec PyProof.Rows L2
section
variable {K : PySem.W.Frag} {X : Cx} {C : Fr} {f fa fb fc : De} {fr : DeL} {g g1 g2 : Ds} {σ σ' : L2.St} {H H' H1 : Hp} {a b c e : Expr} {es : List Expr} {pos : Pos} {env env' : List Sl} {fs fs' fs1 : List (List Addr)} {D : Ends} {r : SRes} {st : Stmt} {rest : List Stmt}
theorem pg_or {tg : Expr} {t t' : TG} (h : PG X tg t) (h' : PG X tg t') : PG X tg (fun v σ H Q => t v σ H Q ∨ t' v σ H Q) := ⟨fun pins s σ H v u Q I r q => by
  rcases q with q | q
  · exact h.run pins s σ H v u Q I r q
  · exact h'.run pins s σ H v u Q I r q⟩
theorem dg_tup {n : Nat} {q : PutL} {vs : List Nat} {k : Nat} (hc : X.calm = true) (h : PGs X es (TGDs X.K C q vs)) (hn : (assignEach es X.env).length = n := by rfl) (hst : (assignEach es X.env).findIdx? (·.1) = none := by rfl) : PG X (.Tuple es k pos) (TGD X.K C (pTup n q) vs) :=
  PG.imp (pg_or (pg_tup hc h hn hst) (pg_unl hc h hn hst)) fun v σ H Q h => by
    obtain ⟨env, fs, d, E, fp, h⟩ := h
    cases d with
    | tuple ds =>
      dsimp only [pTup] at h
      split at h
      · rename_i env' hz
        split at hz
        · rename_i hl
          obtain ⟨a, vs', rfl, s, f2⟩ := fp
          exact .inl ⟨a, vs', rfl, s, by rw [f2.len, hl], env, fs, ds, E, f2, by rw [hz]; exact h⟩
        · cases hz
      · exact h.elim
    | list ds =>
      dsimp only [pTup] at h
      split at h
      · rename_i env' hz
        split at hz
        · rename_i hl
          obtain ⟨a, vs', rfl, s, f2⟩ := fp
          exact .inr ⟨a, vs', rfl, .inl s.rd, by rw [f2.len, hl], env, fs, ds, E, f2, by rw [hz]; exact h⟩
        · cases hz
      · exact h.elim
    | none => exact h.elim
    | bool b => exact h.elim
    | int i => exact h.elim
    | str s => exact h.elim
    | dict k => exact h.elim
/-- target = e, the value handed on -/
def dAsgT (p : Put) (f : De) : Ds := fun env => sOf (f env) fun r e => match r with
  | .d x => (match p x e with
    | some e' => .nx e'
    | none => .bad)
  | _ => .bad
theorem tsd_asgT {p : Put} {vs : List Nat} (h : TSD K C (dAsgT p f) D σ H) : tAsg (TD K C f) (TGD K C p vs) D σ H := by
  obtain ⟨env, fs, E, h⟩ := h
  refine ⟨env, fs, E, (h.of E).imp fun rv e H1 fs1 _ _ s E1 q v rr => ?_⟩
  cases rv with
  | d x =>
    refine ⟨e, fs1, x, E1, rr, ?_⟩
    dsimp only at q
    cases z : p x e with
    | none => rw [z] at q; exact q
    | some e' => rw [z] at q; exact fun σ' fs' E' _ _ _ => q σ' H1 fs' .refl E'
  | ow w => exact q.elim
  | bo i => exact q.elim
  | rng lo hi => exact q.elim
theorem ds_asgT {tg : Expr} {p : Put} {vs : List Nat} (he : PE X e (TD X.K C f)) (hg : PG X tg (TGD X.K C p vs)) (hs : swapsWithSole [tg] e pos.line X.env = pure false := by rfl) (hw : swappedStores [tg] e X.env = pure none := by rfl)
    (h1 : (assignEach [tg] X.env).map (·.2) = [assign tg X.env] := by rfl) : PS X (.Assign [tg] e pos) (TSD X.K C (dAsgT p (dSto f))) := PS.imp (ps_asg (de_sto he) hg hs hw h1) fun _ _ _ h => tsd_asgT h
/-- a, b = x, y -/
def dPar (i j : Nat) (fr : DeL) : Ds := fun env => sOf (fr env) fun rs e => match rs with
  | [r1, r2] => (match slot? r1, slot? r2 with
    | some (.d x), some (.d y) => .nx ((e.set i (.d x)).set j (.d y))
    | some (.d x), some (.ow w) => .nx ((e.set i (.d x)).set j (.ow w))
    | some (.ow w), some (.d y) => .nx ((e.set i (.ow w)).set j (.d y))
    | some (.ow w), some (.ow w') => .nx ((e.set i (.ow w)).set j (.ow w'))
    | _, _ => .bad)
  | _ => .bad
end
/-! ### what is walked -/
structure ItD (K : PySem.W.Frag) (J : It) (xs : List PyData) (H : Hp) : Prop where
  go : ∀ i H', Im H H' → i < xs.length → J.go i H'
  yld : ∀ i H1 x H2, Im H H1 → i < xs.length → J.yld i H1 x H2 → Ex H1 H2 ∧ ∃ d, xs[i]? = some d ∧ Fp K H2 d x
  stop : ∀ i H', Im H H' → xs.length ≤ i → J.stop i H'
abbrev Di := List Sl → Res (List PyData)
def TID (K : PySem.W.Frag) (C : Fr) (f : Di) : TI := fun σ H R => ∃ env fs, ER K C env σ H fs ∧ After K C σ H fs (f env) fun xs _ H1 _ => ∀ J, ItD K J xs H1 → R J H1
section
variable {K : PySem.W.Frag} {X : Cx} {C : Fr} {f fa fb fc : De} {fr : DeL} {fi : Di} {g g1 g2 : Ds} {σ σ' : L2.St} {H H' H1 : Hp} {a b c e tg : Expr} {es : List Expr} {pos : Pos} {env env' : List Sl} {fs fs' fs1 : List (List Addr)} {D : Ends}
theorem itd_list {a : Addr} {ds : List PyData} {vs : List V} (h : FzL H a vs) (f : FpL K H ds vs) : ItD K (Itl K a) ds H where
  go := fun i H' im hi => by
    have hv : i < vs.length := by rw [f.len]; exact hi
    exact ⟨vs, vs[i], .inl (h.im im).rd, List.getElem?_eq_getElem hv⟩
  yld := fun i H1 x H2 im hi y => by
    obtain ⟨rfl, k⟩ := y
    have e := k vs (.inl (h.im im).rd)
    obtain ⟨d, e2, fp⟩ := (FpL.im im _ _ f).get' e
    exact ⟨.refl, d, e2, fp⟩
  stop := fun i H' im hi => ⟨vs, .inl (h.im im).rd, by rw [f.len]; exact hi⟩
theorem itd_tup {a : Addr} {ds : List PyData} {vs : List V} (h : SqT K H a vs) (f : FpL K H ds vs) : ItD K (Itt K a) ds H where
  go := fun i H' im hi => by
    have hv : i < vs.length := by rw [f.len]; exact hi
    exact ⟨vs, vs[i], sqT_im im h, List.getElem?_eq_getElem hv⟩
  yld := fun i H1 x H2 im hi y => by
    obtain ⟨rfl, k⟩ := y
    have e := k vs (sqT_im im h)
    obtain ⟨d, e2, fp⟩ := (FpL.im im _ _ f).get' e
    exact ⟨.refl, d, e2, fp⟩
  stop := fun i H' im hi => ⟨vs, sqT_im im h, by rw [f.len]; exact hi⟩
def intsFrom (lo : Int) (n : Nat) : List PyData := (List.range n).map fun (k : Nat) => PyData.int (lo + k)
theorem itd_rng {lo : Int} {n : Nat} : ItD K (Itr lo n) (intsFrom lo n) H where
  go := fun i H' _ hi => show i < n by simpa [intsFrom] using hi
  yld := fun i H1 x H2 _ hi y => by
    obtain ⟨rfl, rfl⟩ := y
    have hi' : i < n := by simpa [intsFrom] using hi
    refine ⟨.refl, .int (lo + i), ?_, rfl⟩
    unfold intsFrom
    rw [List.getElem?_map, List.getElem?_range hi']
    rfl
  stop := fun i H' _ hi => show n ≤ i by simpa [intsFrom] using hi
def small62 (i : Int) : Bool := decide (-(2 ^ 62) ≤ i) && decide (i < 2 ^ 62)
def iRange1 (fr : DeL) : Di := fun env => (fr env).bind fun rs e => match rs with
  | [.d (.int j)] => if small62 j then .ok (intsFrom 0 j.toNat) e else .bad
  | _ => .bad
def iRange2 (fr : DeL) : Di := fun env => (fr env).bind fun rs e => match rs with
  | [.d (.int i), .d (.int j)] => if small62 i && small62 j then .ok (intsFrom i (j - i).toNat) e else .bad
  | _ => .bad
theorem di_range1 {p : Pos} (hg : Gl X "range") (hm : X.mg "range" = none) (ha : PA X [a] (TAD X.K C fr)) (hs : starEach [a] X.env = [(false, eval a X.env)] := by rfl) : PI X tg (.Call (.Name "range" p) [a] [] pos) (TID X.K C (iRange1 fr)) :=
  PI.imp (pi_range1 hg hm ha hs) fun σ H R h => by
    obtain ⟨env, fs, E, h⟩ := h
    refine ⟨env, fs, E, h.bind.imp fun rs e1 H1 fs1 _ p1 s1 E1 h1 vs rv => ?_⟩
    match rs, h1, rv with
    | [.d (.int j)], h1, rv =>
      obtain ⟨v, ws, rfl, hv, h0⟩ := rv
      rw [show ws = ([] : List V) from h0, show v = V.int j from hv]
      dsimp only at h1
      split at h1
      · rename_i hs
        simp only [small62, Bool.and_eq_true, decide_eq_true_eq] at hs
        exact ⟨j, rfl, hs.1, hs.2, h1 H1 fs1 .refl .refl E1 _ itd_rng⟩
      · exact h1.elim
theorem di_range2 {p : Pos} (hg : Gl X "range") (hm : X.mg "range" = none) (ha : PA X [a, b] (TAD X.K C fr)) (hs : starEach [a, b] X.env = [(false, eval a X.env), (false, eval b X.env)] := by rfl) (hs2 : starEach [b] X.env = [(false, eval b X.env)] := by rfl) : PI X tg (.Call (.Name "range" p) [a, b] [] pos) (TID X.K C (iRange2 fr)) :=
  PI.imp (pi_range2 hg hm ha hs hs2) fun σ H R h => by
    obtain ⟨env, fs, E, h⟩ := h
    refine ⟨env, fs, E, h.bind.imp fun rs e1 H1 fs1 _ p1 s1 E1 h1 vs rv => ?_⟩
    match rs, h1, rv with
    | [.d (.int i), .d (.int j)], h1, rv =>
      obtain ⟨v, ws, rfl, hv, u, ws', rfl, hu, h0⟩ := rv
      rw [show ws' = ([] : List V) from h0, show v = V.int i from hv, show u = V.int j from hu]
      dsimp only at h1
      split at h1
      · rename_i hs
        simp only [small62, Bool.and_eq_true, decide_eq_true_eq] at hs
        exact ⟨i, j, rfl, ⟨hs.1.1, hs.1.2, hs.2.1, hs.2.2⟩, h1 H1 fs1 .refl .refl E1 _ itd_rng⟩
      · exact h1.elim
/-- a list or a tuple, handed on -/
def iSeq (f : De) : Di := fun env => (f env).bind fun r e => match r with
  | .d (.list xs) => .ok xs e
  | .d (.tuple xs) => .ok xs e
  | _ => .bad
theorem pi_seq {l : Expr} {tl : TE} (hl : PE X l tl) : PI X tg l (fun σ H R => tl σ H fun x H1 => ∃ a, x = .ref a ∧ ((∃ xs, SqL X.K H1 a xs ∧ R (Itl X.K a) H1) ∨ ∃ xs, SqT X.K H1 a xs ∧ R (Itt X.K a) H1)) := ⟨fun pins s σ H R I h => thn (hl.run pins s σ H _ I h) fun v s1 hh => by
  obtain ⟨x, H1, I1, r1, a, rfl, q⟩ := hh
  cases r1
  have nw : ∀ {o : Obj}, Inv X pins σ H1 { s1 with heap := s1.heap.push o } := fun {o} => I1.kept (t' := s1.toks) fun b o e => Heap.get?_push_of_some _ e
  have fp : ∀ b ∈ [s1.heap.objs.size], FpOk X pins H1 b := fun b hb => by
    rw [List.mem_singleton.mp hb]
    exact I1.fpOk (Nat.le_refl _) (I1.hok.fresh (Nat.le_refl _))
  rcases q with ⟨xs, hq, q⟩ | ⟨xs, hq, q⟩
  · obtain ⟨its, rv, p, hz⟩ := I1.list hq
    exact wpAny_pyIter_list p.isList ⟨_, [s1.heap.objs.size], _, _, H1, rfl, nw, turn_list a _, ⟨_, Heap.get?_push_size _ rfl, rfl, rfl⟩, fp, q⟩
  · obtain ⟨its, rv, p, hz⟩ := I1.tuple hq
    exact wpAny_pyIter_tuple (show s1.heap.IsTuple a its.toArray from p) ⟨_, [s1.heap.objs.size], _, _, H1, rfl, nw, turn_tuple a _, ⟨_, Heap.get?_push_size _ rfl, rfl, rfl⟩, fp, q⟩⟩
theorem di_seq (h : PE X e (TD X.K C f)) : PI X tg e (TID X.K C (iSeq (dSto f))) := PI.imp (pi_seq (de_sto h)) fun σ H R h => by
  obtain ⟨env, fs, E, h⟩ := h
  refine ⟨env, fs, E, h.bind.imp fun rv e1 H1 fs1 _ p1 s1 E1 h1 v rr => ?_⟩
  match rv, h1, rr with
  | .d (.list xs), h1, rr =>
    obtain ⟨a, vs, rfl, s, f2⟩ := rr
    exact ⟨a, rfl, .inl ⟨vs, .inl s.rd, h1 H1 fs1 .refl .refl E1 _ (itd_list s f2)⟩⟩
  | .d (.tuple xs), h1, rr =>
    obtain ⟨a, vs, rfl, s, f2⟩ := rr
    exact ⟨a, rfl, .inr ⟨vs, s, h1 H1 fs1 .refl .refl E1 _ (itd_tup s f2)⟩⟩

/-! ### for -/
def forD (p : Put) (body : Ds) : List PyData → Ds
  | [], env => .nx env
  | x :: xs, env => match p x env with
    | none => .bad
    | some e => match body e with
      | .nx e1 => forD p body xs e1
      | .ct e1 => forD p body xs e1
      | .brk e1 => .nx e1
      | .ret r e1 => .ret r e1
      | .exc c x e1 => .exc c x e1
      | .bad => .bad
def dFor (fi : Di) (p : Put) (body : Ds) : Ds := fun env => sOf (fi env) fun xs e => forD p body xs e
theorem tsd_for {p : Put} {vs : List Nat} (h : TSD K C (dFor fi p g) D σ H) : tFor (TID K C fi) (TGD K C p vs) (TSD K C g) D σ H := by
  obtain ⟨env, fs, E, h⟩ := h
  refine ⟨env, fs, E, (h.of E).imp fun xs e H1 fs1 _ _ _ E1 q J it => ?_⟩
  refine ⟨fun i m σ H => m + i = xs.length ∧ Im H1 H ∧ ∃ env fs, ER K C env σ H fs ∧ SAft K C H (forD p g (xs.drop i) env) D, ⟨xs.length, rfl, .refl, e, fs1, E1, q⟩, fun i m σ H hW => ?_⟩
  obtain ⟨hm, im, env, fs, E, q⟩ := hW
  by_cases hi : i < xs.length
  · refine .inr ⟨it.go i H im hi, fun σ' H' => Im H1 H' ∧ ∃ env fs, ER K C env σ' H' fs ∧ SAft K C H' (forD p g (xs.drop (i + 1)) env) D, fun σ' H' hN => ⟨m - 1, by omega, by omega, hN⟩, fun x H' y => ?_⟩
    obtain ⟨ex, d, hd, fp⟩ := it.yld i H x H' im hi y
    have E' := E.ex ex
    refine ⟨env, fs, d, E', fp, ?_⟩
    have hdrop : xs.drop i = d :: xs.drop (i + 1) := by
      rw [List.drop_eq_getElem_cons hi]
      rw [List.getElem?_eq_getElem hi] at hd
      cases hd; rfl
    rw [hdrop] at q
    dsimp only [forD] at q
    cases z : p d env with
    | none => rw [z] at q; exact q
    | some e2 =>
      rw [z] at q; dsimp only at q ⊢
      intro σ2 fs2 E2 _ _ _
      refine ⟨e2, fs2, E2, ?_⟩
      have q' := SAft.im q ex.im
      cases w : g e2 with
      | nx e3 => rw [w] at q'; exact fun σ3 H3 fs3 i3 E3 => ⟨im.trans (ex.im.trans i3), e3, fs3, E3, SAft.im q' i3⟩
      | ct e3 => rw [w] at q'; exact fun σ3 H3 fs3 i3 E3 => ⟨im.trans (ex.im.trans i3), e3, fs3, E3, SAft.im q' i3⟩
      | brk e3 => rw [w] at q'; exact q'
      | ret rv e3 => rw [w] at q'; exact q'
      | exc c x e3 => rw [w] at q'; exact q'
      | bad => rw [w] at q'; exact q'
  · refine .inl ⟨it.stop i H im (by omega), ?_⟩
    rw [List.drop_eq_nil_of_le (by omega)] at q
    exact q σ H fs .refl E
theorem ds_for {iter : Expr} {body : List Stmt} {p : Put} {vs : List Nat} (hp : PassesOwn (model X.prog X.w) X.A X.env X.xe) (hc : X.calm = true) (hi : PI X tg iter (TID X.K C fi)) (hg : PG X tg (TGD X.K C p vs)) (hb : PSs X body (TSD X.K C g))
    (hs : ∀ x, foldedSetIterable iter X.env x = pure x := by intro _; rfl) : PS X (.For tg iter body [] pos) (TSD X.K C (dFor fi p g)) := PS.imp (ps_for hp hc hi hg hb hs) fun _ _ _ h => tsd_for h

/-! ### while -/
def whileD (t : De) (body : Ds) : Nat → Ds
  | 0, _ => .bad
  | n + 1, env => sOf (t env) fun r e => match r with
    | .d (.bool true) => (match body e with
      | .nx e1 => whileD t body n e1
      | .ct e1 => whileD t body n e1
      | .brk e1 => .nx e1
      | .ret r e1 => .ret r e1
      | .exc c x e1 => .exc c x e1
      | .bad => .bad)
    | .d (.bool false) => .nx e
    | _ => .bad
theorem tsd_while {n : Nat} (h : TSD K C (whileD f g n) D σ H) : tWhile (TB K C f) (TSD K C g) D σ H := by
  obtain ⟨env, fs, E, h⟩ := h
  refine ⟨fun m σ H => ∃ env fs, ER K C env σ H fs ∧ SAft K C H (whileD f g m env) D, ⟨n, env, fs, E, h⟩, fun m σ H hW => ?_⟩
  obtain ⟨env, fs, E, q⟩ := hW
  cases m with
  | zero => exact q.elim
  | succ m =>
    refine ⟨env, fs, E, (SAft.of E q).imp fun rv e H1 fs1 _ p _ E1 q => ?_⟩
    match rv, q with
    | .d (.bool false), q => exact q σ H1 fs1 .refl E1
    | .d (.bool true), q =>
      refine ⟨fun σ' H' => ∃ env fs, ER K C env σ' H' fs ∧ SAft K C H' (whileD f g m env) D, fun σ' H' hN => ⟨m, Nat.lt_succ_self m, hN⟩, e, fs1, E1, ?_⟩
      dsimp only at q
      cases w : g e with
      | nx e3 => rw [w] at q; exact fun σ3 H3 fs3 i3 E3 => ⟨e3, fs3, E3, SAft.im q i3⟩
      | ct e3 => rw [w] at q; exact fun σ3 H3 fs3 i3 E3 => ⟨e3, fs3, E3, SAft.im q i3⟩
      | brk e3 => rw [w] at q; exact q
      | ret rv e3 => rw [w] at q; exact q
      | exc c x e3 => rw [w] at q; exact q
      | bad => rw [w] at q; exact q
theorem ds_while {body : List Stmt} {n : Nat} (hp : PassesOwn (model X.prog X.w) X.A X.env X.xe) (hc : PT X c (TB X.K C f)) (hb : PSs X body (TSD X.K C g)) : PS X (.While c body [] pos) (TSD X.K C (whileD f g n)) := PS.imp (ps_while hp hc hb) fun _ _ _ h => tsd_while h
end
end Dn

set_option Elab.async false
set_option linter.all false
set_option maxRecDepth 100000
set_option maxHeartbeats 4000000
namespace Dn
open PySem PySem.Spec PyProof.Rows L2
/-! ### comprehensions -/
def Fr.nx (C : Fr) : Fr := { C with W := fun _ _ _ _ => False }
def wipeE (env : List Sl) : List Nat → List Sl
  | [] => env
  | v :: vs => (wipeE env vs).set v .un
def wipeF (fs : List (List Addr)) : List Nat → List (List Addr)
  | [] => fs
  | v :: vs => (wipeF fs vs).set v []
def restE (vs : List Nat) (e e2 : List Sl) : List Sl := e2.mapIdx fun i s => if i ∈ vs then e.getD i .un else s
def noOw (e : List Sl) (vs : List Nat) : Bool := vs.all fun i => match e[i]? with
  | some (.ow _) => false
  | some (.le _) => false
  | _ => true
section
variable {K : PySem.W.Frag} {X : Cx} {C : Fr} {f fa fb fc t el : De} {fr : DeL} {fi : Di} {g g1 g2 : Ds} {σ σ' : L2.St} {H H' H1 : Hp} {a b c e tg : Expr} {es : List Expr} {pos : Pos} {env env' : List Sl} {fs fs' fs1 : List (List Addr)} {D : Ends} {vs : List Nat}
theorem ER.toNx (E : ER K C env σ H fs) : ER K C.nx env σ H fs := ⟨E.sl, E.nd, E.own, E.kept, E.there, E.tabs, E.le, E.lf⟩
theorem ER.ofNx (E : ER K C.nx env σ H fs) : ER K C env σ H fs := ⟨E.sl, E.nd, E.own, E.kept, E.there, E.tabs, E.le, E.lf⟩
theorem wipe_at : ∀ {vs : List Nat} {i : Nat}, i ∈ vs → i < σ.length → (wipe σ vs)[i]? = some none
  | v :: vs, i, h, l => by
    unfold wipe
    by_cases z : v = i
    · rw [z, List.getElem?_set_self (by rw [wipe_length]; exact l)]
    · rw [List.getElem?_set_ne z]
      exact wipe_at ((List.mem_cons.mp h).resolve_left fun y => z y.symm) l
theorem wipe_same (l : σ'.length = σ.length) (k : ∀ i, i ∉ vs → σ'[i]? = (wipe σ vs)[i]?) : wipe σ' vs = wipe σ vs := by
  refine List.ext_getElem? fun i => ?_
  by_cases h : i ∈ vs
  · by_cases z : i < σ.length
    · rw [wipe_at h z, wipe_at h (by omega)]
    · rw [List.getElem?_eq_none (by rw [wipe_length]; omega), List.getElem?_eq_none (by rw [wipe_length]; omega)]
  · rw [wipe_out h, k i h]
theorem ER.wipe (E : ER K C env σ H fs) : ∀ vs : List Nat, ER K C (wipeE env vs) (wipe σ vs) H (wipeF fs vs) ∧ Sub (wipeF fs vs) fs
  | [] => ⟨E, .refl⟩
  | v :: vs => by
    obtain ⟨E1, s⟩ := ER.wipe E vs
    exact ⟨E1.put (s := .un) (o := none) (A := []) rfl (by simp) (fun a h => by cases h) (fun a h => by cases h), Sub.set.trans s⟩
/-- a new object that nobody owns is written -/
theorem ER.updNew (E : ER K C env σ H fs) {p : Addr} {u u' : HO} (h : H p = some u) (w : wr u = true) (n : p ∉ fs.flatten) (h0 : C.H0 p = none) : ER K C env σ (upd H p u') fs where
  sl := SlRs.keep (fun b v q i => by rw [upd_ne (fun (z : b = p) => by rw [z, h] at q; cases q; rw [wr_imm w] at i; cases i)]; exact q) E.sl fun b hb v q => by rw [upd_ne (fun (z : b = p) => n (by rw [← z]; exact hb))]; exact q
  nd := E.nd
  own := E.own
  kept := fun b v q l t => by
    rw [upd_ne (fun (z : b = p) => by rw [z, h0] at q; cases q)]; exact E.kept b v q l t
  there := fun b q => by
    by_cases z : b = p
    · rw [z, upd_same]; simp
    · rw [upd_ne z]; exact E.there b q
  tabs := Tabs_upd E.tabs h w
  le := E.le
  lf := E.lf
theorem im_upd {p : Addr} {u u' : HO} (h : H p = some u) (w : wr u = true) : Im H (upd H p u') := fun b v q i => by
  rw [upd_ne (fun (z : b = p) => by rw [z, h] at q; cases q; rw [wr_imm w] at i; cases i)]; exact q
theorem SlRs.of : ∀ {ss : List Sl} {σ : L2.St} {fs : List (List Addr)}, σ.length = ss.length → fs.length = ss.length → (∀ (i : Nat) s o A, ss[i]? = some s → σ[i]? = some o → fs[i]? = some A → SlR K H s o A) → SlRs K H ss σ fs
  | [], σ, fs, h1, h2, _ => ⟨List.eq_nil_of_length_eq_zero h1, List.eq_nil_of_length_eq_zero h2⟩
  | s :: ss, [], _, h1, _, _ => by simp at h1
  | s :: ss, _ :: _, [], _, h2, _ => by simp at h2
  | s :: ss, o :: os, A :: As, h1, h2, k => ⟨o, os, A, As, rfl, rfl, k 0 s o A rfl rfl rfl, SlRs.of (by simpa using h1) (by simpa using h2) fun i s o A e1 e2 e3 => k (i + 1) s o A (by simpa using e1) (by simpa using e2) (by simpa using e3)⟩
/-- behind the block: its own names are as they were -/
theorem ER.rest {e e2 : List Sl} (E1 : ER K C e σ H1 fs1) (no : noOw e vs = true) (E2 : ER K C e2 (L2.wipe σ vs) H fs) (hf : ∀ i ∈ vs, ∀ A, fs[i]? = some A → A = []) (im : Im H1 H) : ER K C (restE vs e e2) σ H fs := by
  have l1 := E1.sl.len
  have l2 := E2.sl.len
  rw [wipe_length] at l2
  have LL : ∀ (i : Nat) (w : Ow), (restE vs e e2)[i]? = some (Sl.le w) → σ[i]? = C.S0[i]? ∧ fs[i]? = C.F0[i]? := fun i w h1 => by
    unfold restE at h1
    rw [List.getElem?_mapIdx] at h1
    cases q2 : e2[i]? with
    | none => rw [q2] at h1; cases h1
    | some s2 =>
      rw [q2] at h1
      have h1 : (if i ∈ vs then e.getD i .un else s2) = .le w := Option.some.inj h1
      by_cases hi : i ∈ vs
      · rw [if_pos hi] at h1
        have hl : i < e.length := by
          have := (List.getElem?_eq_some_iff.mp q2).1
          omega
        have q1 : e[i]? = some (.le w) := by rw [← h1, List.getD_eq_getElem?_getD, List.getElem?_eq_getElem hl]; rfl
        have hn := List.all_eq_true.mp no i hi
        rw [q1] at hn; cases hn
      · rw [if_neg hi] at h1
        subst h1
        exact ⟨by rw [← E2.le i w q2, wipe_out hi], E2.lf i w q2⟩
  refine ⟨SlRs.of (by simp [restE]; omega) (by simp [restE]; omega) fun i s o A h1 h2 h3 => ?_, E2.nd, fun i A h1 a ha => ?_, E2.kept, E2.there, E2.tabs, fun i w h1 => (LL i w h1).1, fun i w h1 => (LL i w h1).2⟩
  unfold restE at h1
  rw [List.getElem?_mapIdx] at h1
  cases q2 : e2[i]? with
  | none => rw [q2] at h1; cases h1
  | some s2 =>
    rw [q2] at h1
    have h1 : (if i ∈ vs then e.getD i .un else s2) = s := Option.some.inj h1
    by_cases hi : i ∈ vs
    · rw [if_pos hi] at h1
      have hl : i < e.length := by
        have := (List.getElem?_eq_some_iff.mp q2).1
        omega
      have q1 : e[i]? = some s := by rw [← h1, List.getD_eq_getElem?_getD, List.getElem?_eq_getElem hl]; rfl
      obtain ⟨o', A', g1, g2, g3⟩ := E1.sl.get q1
      rw [h2] at g1; cases g1
      have hA := hf i hi A h3
      subst hA
      have hn := List.all_eq_true.mp no i hi
      rw [q1] at hn
      cases s with
      | ow w => cases hn
      | un => rfl
      | d x => obtain ⟨_, v, ev, fv⟩ := g3; exact ⟨rfl, v, ev, Fp.im im _ _ fv⟩
      | rng lo hi => obtain ⟨_, v, ev, fv⟩ := g3; exact ⟨rfl, v, ev, im _ _ fv rfl⟩
      | scr ns => obtain ⟨_, v, ev, fv⟩ := g3; exact ⟨rfl, v, ev, fv.im im⟩
      | le w => cases hn
    · rw [if_neg hi] at h1
      subst h1
      obtain ⟨o', A', g1, g2, g3⟩ := E2.sl.get q2
      rw [wipe_out hi, h2] at g1; cases g1
      rw [h3] at g2; cases g2
      exact g3
  · by_cases hi : i ∈ vs
    · rw [hf i hi A h1] at ha; cases ha
    · rcases E2.own i A h1 a ha with z | ⟨z, w, y⟩
      · refine .inl ⟨z.1, fun w y => z.2 w ?_⟩
        unfold restE at y
        rw [List.getElem?_mapIdx] at y
        cases q9 : e2[i]? with
        | none => rw [q9] at y; cases y
        | some s9 =>
          rw [q9] at y
          dsimp only [Option.map_some] at y
          rw [if_neg hi] at y
          exact y
      · refine .inr ⟨z, w, ?_⟩
        unfold restE
        rw [List.getElem?_mapIdx, y]
        exact congrArg some (if_neg hi)
/-- a loop over items that makes a list -/
theorem loop_items {J : It} {xs : List PyData} {H0 : Hp} {P : Hp → Prop} {B : (Hp → Prop) → V → Hp → Prop} (it : ItD K J xs H1) (Pv : Nat → Hp → Prop) (h0 : Pv 0 H0) (im : ∀ i H, Pv i H → Im H1 H)
    (hs : ∀ i d x H H', Pv i H → xs[i]? = some d → Fp K H' d x → Ex H H' → B (Pv (i + 1)) x H') (hd : ∀ H, Pv xs.length H → P H) :
    ∃ W : Nat → Nat → Hp → Prop, (∃ m, W 0 m H0) ∧ ∀ i m H, W i m H → (J.stop i H ∧ P H) ∨ (J.go i H ∧ ∃ Nx : Hp → Prop, (∀ H', Nx H' → ∃ m', m' < m ∧ W (i + 1) m' H') ∧ ∀ x H', J.yld i H x H' → B Nx x H') := by
  refine ⟨fun i m H => m + i = xs.length ∧ Pv i H, ⟨xs.length, rfl, h0⟩, fun i m H hW => ?_⟩
  obtain ⟨hm, hp⟩ := hW
  by_cases hi : i < xs.length
  · refine .inr ⟨it.go i H (im i H hp) hi, Pv (i + 1), fun H' hN => ⟨m - 1, by omega, by omega, hN⟩, fun x H' y => ?_⟩
    obtain ⟨ex, d, hd', fp⟩ := it.yld i H x H' (im i H hp) hi y
    exact hs i d x H H' hp hd' fp ex
  · have e : i = xs.length := by omega
    subst e
    exact .inl ⟨it.stop _ H (im _ H hp) (Nat.le_refl _), hd H hp⟩
def lcD (vs : List Nat) (p : Put) (t el : De) : List PyData → List PyData → List Sl → Res (List PyData)
  | [], acc, env => .ok acc env
  | x :: xs, acc, env => match p x env with
    | none => .bad
    | some e => (t e).bind fun r e1 => onB r ((el e1).bind fun r2 e2 => match r2 with
        | .d y => if acc.length < lim then lcD vs p t el xs (acc ++ [y]) (wipeE e2 vs) else .bad
        | _ => .bad) (lcD vs p t el xs acc (wipeE e1 vs))
def dLc (fi : Di) (vs : List Nat) (p : Put) (t el : De) : De := fun env => (fi env).bind fun xs e => if noOw e vs then match lcD vs p t el xs [] (wipeE e vs) with
  | .ok acc e2 => .ok (.ow (.lst acc)) (restE vs e e2)
  | _ => .bad else .bad
def dYes : De := fun env => .ok (.d (.bool true)) env
/-- what holds between two turns of a comprehension: the list so far stands at L -/
structure LcI (K : PySem.W.Frag) (C : Fr) (σ : L2.St) (L : Addr) (H1 : Hp) (M : List (List Addr)) (acc : List PyData) (env : List Sl) (H : Hp) (fs : List (List Addr)) : Prop where
  at_ : ∃ us, H L = some (.lst us) ∧ FpL K H acc us
  le : acc.length ≤ lim
  er : ER K C env σ H fs
  sub : Sub fs M
  out : L ∉ fs.flatten
  stp : Stp M.flatten H1 H
theorem fs_wiped (E : ER K C env σ H fs) (h : ∀ i ∈ vs, ∀ s, env[i]? = some s → s = .un) : ∀ i ∈ vs, ∀ A, fs[i]? = some A → A = [] := fun i hi A hA => by
  have l := E.sl.len
  have hl : i < env.length := by
    have := (List.getElem?_eq_some_iff.mp hA).1
    omega
  have q : env[i]? = some .un := by rw [List.getElem?_eq_getElem hl]; exact congrArg some (h i hi _ (List.getElem?_eq_getElem hl))
  obtain ⟨o, A', g1, g2, g3⟩ := E.sl.get q
  rw [hA] at g2; cases g2
  exact g3
theorem wipeE_un : ∀ {vs : List Nat} {i : Nat} {s : Sl}, i ∈ vs → (wipeE env vs)[i]? = some s → s = .un
  | v :: vs, i, s, h, q => by
    unfold wipeE at q
    by_cases z : v = i
    · subst z
      by_cases l : v < (wipeE env vs).length
      · rw [List.getElem?_set_self l] at q; cases q; rfl
      · rw [List.getElem?_eq_none (by simpa using l)] at q; cases q
    · rw [List.getElem?_set_ne z] at q
      exact wipeE_un ((List.mem_cons.mp h).resolve_left fun y => z y.symm) q
theorem stp_upd {L : Addr} {M : List Addr} {u' : HO} (p : Stp M H1 H) (h : H1 L = none) : Stp M H1 (upd H L u') :=
  ⟨fun b v q n t => by rw [upd_ne (fun (z : b = L) => by rw [z, h] at q; cases q)]; exact p.keep b v q n t, fun b q => by
    by_cases z : b = L
    · rw [z, upd_same]; simp
    · rw [upd_ne z]; exact p.there b q⟩
theorem Stp.mono {M M' : List Addr} (p : Stp M H H') (s : ∀ a ∈ M, a ∈ M') : Stp M' H H' := ⟨fun a o h n t => p.keep a o h (fun z => n (s a z)) t, p.there⟩
theorem Stp.trans'' {M : List Addr} {H2 : Hp} (p : Stp M H H') (q : Stp M H' H2) : Stp M H H2 := ⟨fun a o h n t => q.keep a o (p.keep a o h n t) n t, fun a h => q.there a (p.there a h)⟩
/-- one turn -/
theorem lc_turn {L : Addr} {H2 H3 : Hp} {M : List (List Addr)} {acc : List PyData} {p : Put} {pv : List Nat} {d : PyData} {x : V} {xs : List PyData} {R : Res (List PyData)} {N : Hp → Prop}
    (h0 : H1 L = none) (hC : C.H0 L = none) (W : LcI K C.nx (wipe σ vs) L H1 M acc env H2 fs) (ex : Ex H2 H3) (fp : Fp K H3 d x) (hpv : ∀ i ∈ pv, i ∈ vs)
    (hR : lcD vs p t el (d :: xs) acc env = R) (ok : ∃ a e, R = .ok a e)
    (next : ∀ acc' env' H' fs', LcI K C.nx (wipe σ vs) L H1 M acc' env' H' fs' → lcD vs p t el xs acc' env' = R → (∀ i ∈ vs, ∀ s, env'[i]? = some s → s = .un) → Im H2 H' → N H') :
    TGD K C.nx p pv x (wipe σ vs) H3 fun σ2 H4 => wipe σ2 vs = wipe σ vs ∧ TB K C.nx t σ2 H4 fun k H5 =>
      if k = true then TD K C.nx el σ2 H5 fun y H6 => ∃ us, H6 L = some (.lst us) ∧ us.length < sizeLine ∧ N (upd H6 L (.lst (us ++ [y]))) else N H5 := by
  have E3 := W.er.ex ex
  obtain ⟨a0, e0, rfl⟩ := ok
  refine ⟨env, fs, d, E3, fp, ?_⟩
  unfold lcD at hR
  cases z : p d env with
  | none => rw [z] at hR; cases hR
  | some e4 =>
    rw [z] at hR; dsimp only at hR
    intro σ2 fs2 E4 s4 l4 k4
    have hw : wipe σ2 vs = wipe σ vs := wipe_same (l4.trans (wipe_length _ _)) fun i hi => k4 i fun y => hi (hpv i y)
    refine ⟨hw, e4, fs2, E4, ?_⟩
    have out4 : L ∉ fs2.flatten := fun q => W.out (s4 L q)
    have hL : ∀ {H'} {M' : List Addr}, L ∉ M' → Stp M' H3 H' → ∃ us, H' L = some (.lst us) ∧ FpL K H2 acc us := fun n p => by
      obtain ⟨us, q1, q2⟩ := W.at_
      exact ⟨us, p.keep L _ (ex L _ q1) n (fun ps e => by cases e), q2⟩
    cases zt : t e4 with
    | bad => rw [zt] at hR; cases hR
    | exc c x e => rw [zt] at hR; cases hR
    | ok rt e5 =>
      rw [zt] at hR
      intro H5 fs5 p5 s5 E5
      have im25 : Im H2 H5 := ex.im.trans (E4.im p5)
      have st5 : Stp M.flatten H1 H5 := (W.stp.trans'' (Stp.of_ex ex)).trans'' (p5.mono fun a q => W.sub a (s4 a q))
      match rt, hR with
      | .d (.bool false), hR =>
        have ew := E5.wipe vs
        rw [hw] at ew
        obtain ⟨us, q1, q2⟩ := hL out4 p5
        exact next acc (wipeE e5 vs) H5 _ ⟨⟨us, q1, FpL.im im25 _ _ q2⟩, W.le, ew.1, ew.2.trans (s5.trans (s4.trans W.sub)), fun q => out4 (s5 L (ew.2 L q)), st5⟩ hR (fun i hi s q => wipeE_un hi q) im25
      | .d (.bool true), hR =>
        show TD K C.nx el σ2 H5 _
        dsimp only [Res.bind, onB] at hR
        refine ⟨e5, fs5, E5, ?_⟩
        cases ze : el e5 with
        | bad => rw [ze] at hR; cases hR
        | exc c x e => rw [ze] at hR; cases hR
        | ok re e6 =>
          rw [ze] at hR
          intro H6 fs6 p6 s6 E6 y ry
          match re, hR, ry with
          | .d dy, hR, ry =>
            dsimp only at hR
            split at hR
            · rename_i hl
              have out6 : L ∉ fs5.flatten := fun q => out4 (s5 L q)
              have im56 := E5.im p6
              obtain ⟨us, q1, q2⟩ := hL (M' := fs2.flatten) out4 (p5.trans p6 s5)
              have h6 : Im H2 H6 := im25.trans im56
              have fU := FpL.im h6 _ _ q2
              refine ⟨us, q1, by rw [q2.len]; exact lim_lt hl, ?_⟩
              have E7 := E6.updNew (u' := .lst (us ++ [y])) q1 rfl (fun q => out6 (s6 L q)) hC
              have ew := E7.wipe vs
              rw [hw] at ew
              have imU := im_upd (u' := .lst (us ++ [y])) q1 (rfl : wr (.lst us) = true)
              exact next (acc ++ [dy]) (wipeE e6 vs) _ _ ⟨⟨_, upd_same, FpL.im imU _ _ (fU.app (FpL.one ry))⟩, by rw [List.length_append]; exact hl, ew.1, ew.2.trans (s6.trans (s5.trans (s4.trans W.sub))), fun q => out6 (s6 L (ew.2 L q)),
                stp_upd (st5.trans'' (p6.mono fun a q => W.sub a (s4 a (s5 a q)))) h0⟩ hR (fun i hi s q => wipeE_un hi q) (h6.trans imU)
            · cases hR
end
end Dn

set_option Elab.async false
set_option linter.all false
set_option maxRecDepth 100000
set_option maxHeartbeats 4000000
namespace Dn
open PySem PySem.Spec PyProof.Rows L2
section
variable {K : PySem.W.Frag} {X : Cx} {C : Fr} {f fa fb fc t el t1 : De} {fr : DeL} {fi fi1 : Di} {g g1 g2 : Ds} {σ σ' : L2.St} {H H' H1 : Hp} {a b c e tg iter elt tg1 iter1 : Expr} {es : List Expr} {pos : Pos} {env env' : List Sl} {fs fs' fs1 : List (List Addr)} {D : Ends} {vs vs1 pv pv1 : List Nat} {p p1 : Put}
theorem td_lc (hpv : ∀ i ∈ pv, i ∈ vs) {Q : VK} (h : TD K C (dLc fi vs p t el) σ H Q) : tLc (TID K C fi) (TGD K C.nx p pv) (TB K C.nx t) (TD K C.nx el) vs σ H Q := by
  obtain ⟨env, fs, E, h⟩ := h
  refine ⟨env, fs, E, h.bind.imp fun xs e H1 fs1 _ p1 s1 E1 q J it L hL => ?_⟩
  cases no : noOw e vs with
  | false => rw [no] at q; exact q.elim
  | true =>
    rw [no, if_pos rfl] at q
    cases hR : lcD vs p t el xs [] (wipeE e vs) with
    | bad => rw [hR] at q; exact q.elim
    | exc c x e => rw [hR] at q; exact q.elim
    | ok accF eF =>
      rw [hR] at q
      obtain ⟨ew, sw⟩ := E1.toNx.wipe vs
      have hC : C.H0 L = none := E1.fresh hL
      refine loop_items (B := fun Nx x H' => TGD K C.nx p pv x (wipe σ vs) H' fun σ2 H2 => wipe σ2 vs = wipe σ vs ∧ TB K C.nx t σ2 H2 fun b H3 =>
          if b = true then TD K C.nx el σ2 H3 fun y H4 => ∃ acc, H4 L = some (.lst acc) ∧ acc.length < sizeLine ∧ Nx (upd H4 L (.lst (acc ++ [y]))) else Nx H3) it
        (fun i H => ∃ acc env fs, LcI K C.nx (wipe σ vs) L H1 (wipeF fs1 vs) acc env H fs ∧ lcD vs p t el (xs.drop i) acc env = .ok accF eF ∧ ∀ i ∈ vs, ∀ s, env[i]? = some s → s = .un) ?_ ?_ ?_ ?_
      · exact ⟨[], wipeE e vs, _, ⟨⟨[], upd_same, rfl⟩, Nat.zero_le _, ew.ex (Ex.new hL), .refl, ew.notIn hL, .of_ex (Ex.new hL)⟩, hR, fun i hi s z => wipeE_un hi z⟩
      · rintro i H ⟨acc, env, fs, W, _, _⟩
        exact ew.im W.stp
      · rintro i d x H H' ⟨acc, env, fs, W, hr, un⟩ hd fp ex
        obtain ⟨hi, hg⟩ := List.getElem?_eq_some_iff.mp hd
        refine lc_turn hL hC W ex fp hpv (xs := xs.drop (i + 1)) (by rw [← hg, ← List.drop_eq_getElem_cons hi]; exact hr) ⟨_, _, rfl⟩ fun acc' env' H' fs' W' hr' un' _ => ⟨acc', env', fs', W', hr', un'⟩
      · rintro H ⟨acc, env, fs, W, hr, un⟩
        rw [List.drop_length] at hr
        cases hr
        obtain ⟨us, q1, q2⟩ := W.at_
        have st : Stp fs1.flatten H1 H := W.stp.mono fun a z => sw a z
        exact q H fs st (W.sub.trans sw) (ER.rest E1 no W.er.ofNx (fs_wiped W.er un) (E1.im st)) _ ⟨[L], ⟨L, us, rfl, rfl, q1, q2⟩, fun a ha => by rw [List.mem_singleton.mp ha]; exact W.out, fun a ha => by
          rw [List.mem_singleton.mp ha]
          exact Classical.byContradiction fun z => p1.there L z hL⟩
theorem PTs.imp' {ifs : List Expr} {t t' : TT} (h : PTs X ifs t) (i : ∀ σ H Q, t' σ H Q → t σ H Q) : PTs X ifs t' := ⟨fun pins s σ H Q I q => h.run pins s σ H Q I (i σ H Q q)⟩
theorem dts_nil : PTs X [] (TB X.K C dYes) := PTs.imp' pts_nil fun σ H Q h => by
  obtain ⟨env, fs, E, h⟩ := h
  exact h H fs .refl .refl E
theorem dts_one (h : PT X c (TB X.K C t)) : PTs X [c] (TB X.K C t) := pts_one h
theorem de_lc {ifs : List Expr} {scope : Scope} {own : List (Str × Nat)} (hc : X.calm = true) (hN : X.N.Nodup) (hi : PI X tg iter (TID X.K C fi)) (ok : BlkOk X.N X.env.scope scope own)
    (hg : ∀ (s : Shared) (H : Hp) (B : Addr) (cl : List (Str × Addr)) (fp : List Addr), PG (X.blk s H scope (compEnvC scope cl B X.env) fp) tg (TGD X.K C.nx p pv))
    (ht : ∀ (s : Shared) (H : Hp) (B : Addr) (cl : List (Str × Addr)) (fp : List Addr), PTs (X.blk s H scope (compEnvC scope cl B X.env) fp) ifs (TB X.K C.nx t))
    (he : ∀ (s : Shared) (H : Hp) (B : Addr) (cl : List (Str × Addr)) (fp : List Addr), PE (X.blk s H scope (compEnvC scope cl B X.env) fp) elt (TD X.K C.nx el))
    (hpv : ∀ i ∈ pv, i ∈ own.map (·.2) := by decide) (hs : ∀ x, foldedSetIterable iter X.env x = pure x := by intro _; rfl) :
    PE X (.ListComp elt [⟨tg, iter, ifs, 0⟩] scope pos) (TD X.K C (dLc fi (own.map (·.2)) p t el)) := PE.imp (pe_lc hc hN hi ok hg ht he hs) fun _ _ _ h => td_lc hpv h
theorem ds_setLc {i : Nat} {y : Str} {py spos : Pos} {ifs : List Expr} {scope : Scope} {own : List (Str × Nat)} (hc : X.calm = true) (hN : X.N.Nodup) (hy : X.N[i]? = some y) (hyl : X.env.scope.names.lookup y = some .local)
    (hsw : swapsWith (.ListComp elt [⟨tg, iter, ifs, 0⟩] scope pos) (some (.Name y py)) spos.line X.env = pure true) (hi : PI X tg iter (TID X.K C fi)) (ok : BlkOk X.N X.env.scope scope own)
    (hg : ∀ (s : Shared) (H : Hp) (B : Addr) (cl : List (Str × Addr)) (fp : List Addr), PG (X.blk s H scope (compEnvC scope cl B X.env) fp) tg (TGD X.K C.nx p pv))
    (ht : ∀ (s : Shared) (H : Hp) (B : Addr) (cl : List (Str × Addr)) (fp : List Addr), PTs (X.blk s H scope (compEnvC scope cl B X.env) fp) ifs (TB X.K C.nx t))
    (he : ∀ (s : Shared) (H : Hp) (B : Addr) (cl : List (Str × Addr)) (fp : List Addr), PE (X.blk s H scope (compEnvC scope cl B X.env) fp) elt (TD X.K C.nx el))
    (hpv : ∀ i ∈ pv, i ∈ own.map (·.2) := by decide) (hs : ∀ x, foldedSetIterable iter X.env x = pure x := by intro _; rfl) :
    PS X (.Assign [.Name y py] (.ListComp elt [⟨tg, iter, ifs, 0⟩] scope pos) spos) (TSD X.K C (dSet i (dLc fi (own.map (·.2)) p t el))) := PS.imp (ps_setLc hc hN hy hyl hsw hi ok hg ht he hs) fun D σ H h => td_lc hpv (tsd_set h)

/-! ### two clauses -/
def lc2D (vs vs1 : List Nat) (p : Put) (t : De) (fi1 : Di) (p1 : Put) (t1 el : De) : List PyData → List PyData → List Sl → Res (List PyData)
  | [], acc, env => .ok acc env
  | x :: xs, acc, env => match p x env with
    | none => .bad
    | some e => (t e).bind fun r e1 => onB r ((fi1 e1).bind fun ys e2 => match lcD vs1 p1 t1 el ys acc (wipeE e2 vs1) with
        | .ok acc' e3 => lc2D vs vs1 p t fi1 p1 t1 el xs acc' (wipeE e3 vs)
        | _ => .bad) (lc2D vs vs1 p t fi1 p1 t1 el xs acc (wipeE e1 vs))
def dLc2 (fi : Di) (vs vs1 : List Nat) (p : Put) (t : De) (fi1 : Di) (p1 : Put) (t1 el : De) : De := fun env => (fi env).bind fun xs e => if noOw e vs then match lc2D vs vs1 p t fi1 p1 t1 el xs [] (wipeE e vs) with
  | .ok acc e2 => .ok (.ow (.lst acc)) (restE vs e e2)
  | _ => .bad else .bad
theorem wipe_wipe (s : ∀ i ∈ vs1, i ∈ vs) : wipe (wipe σ vs1) vs = wipe σ vs := wipe_same (wipe_length _ _) fun i hi => by
  rw [wipe_out hi, wipe_out fun z => hi (s i z)]
theorem lc2_turn {L : Addr} {H2 H3 : Hp} {M : List (List Addr)} {acc : List PyData} {d : PyData} {x : V} {xs : List PyData} {R : Res (List PyData)} {N : Hp → Prop}
    (h0 : H1 L = none) (hC : C.H0 L = none) (W : LcI K C.nx (wipe σ vs) L H1 M acc env H2 fs) (ex : Ex H2 H3) (fp : Fp K H3 d x) (hpv : ∀ i ∈ pv, i ∈ vs) (hpv1 : ∀ i ∈ pv1, i ∈ vs1) (hvv : ∀ i ∈ vs1, i ∈ vs)
    (hR : lc2D vs vs1 p t fi1 p1 t1 el (d :: xs) acc env = R) (ok : ∃ a e, R = .ok a e)
    (next : ∀ acc' env' H' fs', LcI K C.nx (wipe σ vs) L H1 M acc' env' H' fs' → lc2D vs vs1 p t fi1 p1 t1 el xs acc' env' = R → (∀ i ∈ vs, ∀ s, env'[i]? = some s → s = .un) → N H') :
    TGD K C.nx p pv x (wipe σ vs) H3 fun σ2 H4 => wipe σ2 vs = wipe σ vs ∧ TB K C.nx t σ2 H4 fun k H5 =>
      if k = true then TID K C.nx fi1 σ2 H5 fun J1 H6 => ∃ W1 : Nat → Nat → Hp → Prop, (∃ m, W1 0 m H6) ∧ ∀ j k H, W1 j k H →
      (J1.stop j H ∧ N H) ∨ (J1.go j H ∧ ∃ Nx1 : Hp → Prop, (∀ H', Nx1 H' → ∃ k', k' < k ∧ W1 (j + 1) k' H') ∧ ∀ x H', J1.yld j H x H' → TGD K C.nx p1 pv1 x (wipe σ2 vs1) H' fun σ3 H5 => wipe σ3 vs1 = wipe σ2 vs1 ∧ TB K C.nx t1 σ3 H5 fun b H6 =>
        if b = true then TD K C.nx el σ3 H6 fun y H7 => ∃ acc, H7 L = some (.lst acc) ∧ acc.length < sizeLine ∧ Nx1 (upd H7 L (.lst (acc ++ [y]))) else Nx1 H6)
      else N H5 := by
  have E3 := W.er.ex ex
  obtain ⟨a0, e0, rfl⟩ := ok
  refine ⟨env, fs, d, E3, fp, ?_⟩
  unfold lc2D at hR
  cases z : p d env with
  | none => rw [z] at hR; cases hR
  | some e4 =>
    rw [z] at hR; dsimp only at hR
    intro σ2 fs2 E4 s4 l4 k4
    have hw : wipe σ2 vs = wipe σ vs := wipe_same (l4.trans (wipe_length _ _)) fun i hi => k4 i fun y => hi (hpv i y)
    refine ⟨hw, e4, fs2, E4, ?_⟩
    have out4 : L ∉ fs2.flatten := fun q => W.out (s4 L q)
    have hL : ∀ {H'} {M' : List Addr}, L ∉ M' → Stp M' H3 H' → ∃ us, H' L = some (.lst us) ∧ FpL K H2 acc us := fun n p => by
      obtain ⟨us, q1, q2⟩ := W.at_
      exact ⟨us, p.keep L _ (ex L _ q1) n (fun ps e => by cases e), q2⟩
    cases zt : t e4 with
    | bad => rw [zt] at hR; cases hR
    | exc c x e => rw [zt] at hR; cases hR
    | ok rt e5 =>
      rw [zt] at hR
      intro H5 fs5 p5 s5 E5
      have im25 : Im H2 H5 := ex.im.trans (E4.im p5)
      have st5 : Stp M.flatten H1 H5 := (W.stp.trans'' (Stp.of_ex ex)).trans'' (p5.mono fun a q => W.sub a (s4 a q))
      match rt, hR with
      | .d (.bool false), hR =>
        have ew := E5.wipe vs
        rw [hw] at ew
        obtain ⟨us, q1, q2⟩ := hL out4 p5
        exact next acc (wipeE e5 vs) H5 _ ⟨⟨us, q1, FpL.im im25 _ _ q2⟩, W.le, ew.1, ew.2.trans (s5.trans (s4.trans W.sub)), fun q => out4 (s5 L (ew.2 L q)), st5⟩ hR (fun i hi s q => wipeE_un hi q)
      | .d (.bool true), hR =>
        show TID K C.nx fi1 σ2 H5 _
        dsimp only [Res.bind, onB] at hR
        refine ⟨e5, fs5, E5, ?_⟩
        cases zf : fi1 e5 with
        | bad => rw [zf] at hR; cases hR
        | exc c x e => rw [zf] at hR; cases hR
        | ok ys e6 =>
          rw [zf] at hR; dsimp only at hR
          intro H6 fs6 p6 s6 E6 J1 it1
          cases hin : lcD vs1 p1 t1 el ys acc (wipeE e6 vs1) with
          | bad => rw [hin] at hR; cases hR
          | exc c x e => rw [hin] at hR; cases hR
          | ok accI eI =>
            rw [hin] at hR; dsimp only at hR
            have out6 : L ∉ fs5.flatten := fun q => out4 (s5 L q)
            have im26 : Im H2 H6 := im25.trans (E5.im p6)
            obtain ⟨us, q1, q2⟩ := hL (M' := fs2.flatten) out4 (p5.trans p6 s5)
            have st6 : Stp M.flatten H1 H6 := st5.trans'' (p6.mono fun a q => W.sub a (s4 a (s5 a q)))
            obtain ⟨ew, sw⟩ := E6.wipe vs1
            have sM : Sub (wipeF fs6 vs1) M := sw.trans (s6.trans (s5.trans (s4.trans W.sub)))
            refine loop_items (P := N) (B := fun Nx1 x H' => TGD K C.nx p1 pv1 x (wipe σ2 vs1) H' fun σ3 H5 => wipe σ3 vs1 = wipe σ2 vs1 ∧ TB K C.nx t1 σ3 H5 fun b H6 =>
                if b = true then TD K C.nx el σ3 H6 fun y H7 => ∃ acc, H7 L = some (.lst acc) ∧ acc.length < sizeLine ∧ Nx1 (upd H7 L (.lst (acc ++ [y]))) else Nx1 H6) it1
              (fun i H => Im H6 H ∧ ∃ acc env fs, LcI K C.nx (wipe σ2 vs1) L H1 M acc env H fs ∧ lcD vs1 p1 t1 el (ys.drop i) acc env = .ok accI eI) ?_ ?_ ?_ ?_
            · exact ⟨.refl, acc, _, _, ⟨⟨us, q1, FpL.im im26 _ _ q2⟩, W.le, ew, sM, fun q => out6 (s6 L (sw L q)), st6⟩, hin⟩
            · exact fun i H z => z.1
            · rintro i d x H H' ⟨im, acc, env, fs, W', hr⟩ hd fp ex
              obtain ⟨hi, hg⟩ := List.getElem?_eq_some_iff.mp hd
              refine lc_turn h0 hC W' ex fp hpv1 (xs := ys.drop (i + 1)) (by rw [← hg, ← List.drop_eq_getElem_cons hi]; exact hr) ⟨_, _, rfl⟩ fun acc' env' H'' fs' W'' hr' un' im' => ⟨im.trans im', acc', env', fs', W'', hr'⟩
            · rintro H ⟨im, acc', env', fs', W', hr⟩
              rw [List.drop_length] at hr
              cases hr
              have ew2 := W'.er.wipe vs
              rw [wipe_wipe hvv, hw] at ew2
              exact next accI (wipeE eI vs) H _ ⟨W'.at_, W'.le, ew2.1, ew2.2.trans W'.sub, fun q => W'.out (ew2.2 L q), W'.stp⟩ hR fun i hi s q => wipeE_un hi q
theorem td_lc2 (hpv : ∀ i ∈ pv, i ∈ vs) (hpv1 : ∀ i ∈ pv1, i ∈ vs1) (hvv : ∀ i ∈ vs1, i ∈ vs) {Q : VK} (h : TD K C (dLc2 fi vs vs1 p t fi1 p1 t1 el) σ H Q) :
    tLc2 (TID K C fi) (TGD K C.nx p pv) (TB K C.nx t) (TID K C.nx fi1) (TGD K C.nx p1 pv1) (TB K C.nx t1) (TD K C.nx el) vs vs1 σ H Q := by
  obtain ⟨env, fs, E, h⟩ := h
  refine ⟨env, fs, E, h.bind.imp fun xs e H1 fs1 _ pp s1 E1 q J it L hL => ?_⟩
  cases no : noOw e vs with
  | false => rw [no] at q; exact q.elim
  | true =>
    rw [no, if_pos rfl] at q
    cases hR : lc2D vs vs1 p t fi1 p1 t1 el xs [] (wipeE e vs) with
    | bad => rw [hR] at q; exact q.elim
    | exc c x e => rw [hR] at q; exact q.elim
    | ok accF eF =>
      rw [hR] at q
      obtain ⟨ew, sw⟩ := E1.toNx.wipe vs
      have hC : C.H0 L = none := E1.fresh hL
      refine loop_items (P := Q (.ref L)) (B := fun Nx x H' => TGD K C.nx p pv x (wipe σ vs) H' fun σ2 H2 => wipe σ2 vs = wipe σ vs ∧ TB K C.nx t σ2 H2 fun b H3 =>
          if b = true then TID K C.nx fi1 σ2 H3 fun J1 H6 => ∃ W1 : Nat → Nat → Hp → Prop, (∃ m, W1 0 m H6) ∧ ∀ j k H, W1 j k H →
          (J1.stop j H ∧ Nx H) ∨ (J1.go j H ∧ ∃ Nx1 : Hp → Prop, (∀ H', Nx1 H' → ∃ k', k' < k ∧ W1 (j + 1) k' H') ∧ ∀ x H', J1.yld j H x H' → TGD K C.nx p1 pv1 x (wipe σ2 vs1) H' fun σ3 H5 => wipe σ3 vs1 = wipe σ2 vs1 ∧ TB K C.nx t1 σ3 H5 fun b H6 =>
            if b = true then TD K C.nx el σ3 H6 fun y H7 => ∃ acc, H7 L = some (.lst acc) ∧ acc.length < sizeLine ∧ Nx1 (upd H7 L (.lst (acc ++ [y]))) else Nx1 H6)
          else Nx H3) it
        (fun i H => ∃ acc env fs, LcI K C.nx (wipe σ vs) L H1 (wipeF fs1 vs) acc env H fs ∧ lc2D vs vs1 p t fi1 p1 t1 el (xs.drop i) acc env = .ok accF eF ∧ ∀ i ∈ vs, ∀ s, env[i]? = some s → s = .un) ?_ ?_ ?_ ?_
      · exact ⟨[], wipeE e vs, _, ⟨⟨[], upd_same, rfl⟩, Nat.zero_le _, ew.ex (Ex.new hL), .refl, ew.notIn hL, .of_ex (Ex.new hL)⟩, hR, fun i hi s z => wipeE_un hi z⟩
      · rintro i H ⟨acc, env, fs, W, _, _⟩
        exact ew.im W.stp
      · rintro i d x H H' ⟨acc, env, fs, W, hr, un⟩ hd fp ex
        obtain ⟨hi, hg⟩ := List.getElem?_eq_some_iff.mp hd
        exact lc2_turn hL hC W ex fp hpv hpv1 hvv (xs := xs.drop (i + 1)) (by rw [← hg, ← List.drop_eq_getElem_cons hi]; exact hr) ⟨_, _, rfl⟩ fun acc' env' H' fs' W' hr' un' => ⟨acc', env', fs', W', hr', un'⟩
      · rintro H ⟨acc, env, fs, W, hr, un⟩
        rw [List.drop_length] at hr
        cases hr
        obtain ⟨us, q1, q2⟩ := W.at_
        have st : Stp fs1.flatten H1 H := W.stp.mono fun a z => sw a z
        exact q H fs st (W.sub.trans sw) (ER.rest E1 no W.er.ofNx (fs_wiped W.er un) (E1.im st)) _ ⟨[L], ⟨L, us, rfl, rfl, q1, q2⟩, fun a ha => by rw [List.mem_singleton.mp ha]; exact W.out, fun a ha => by
          rw [List.mem_singleton.mp ha]
          exact Classical.byContradiction fun z => pp.there L z hL⟩
theorem de_lc2 {ifs ifs1 : List Expr} {scope : Scope} {own : List (Str × Nat)} (hc : X.calm = true) (hN : X.N.Nodup) (hi : PI X tg iter (TID X.K C fi)) (ok : BlkOk X.N X.env.scope scope own) (hv : ∀ i ∈ vs1, i ∈ own.map (·.2))
    (hg : ∀ (s : Shared) (H : Hp) (B : Addr) (cl : List (Str × Addr)) (fp : List Addr), PG (X.blk s H scope (compEnvC scope cl B X.env) fp) tg (TGD X.K C.nx p pv))
    (ht : ∀ (s : Shared) (H : Hp) (B : Addr) (cl : List (Str × Addr)) (fp : List Addr), PTs (X.blk s H scope (compEnvC scope cl B X.env) fp) ifs (TB X.K C.nx t))
    (hi1 : ∀ (s : Shared) (H : Hp) (B : Addr) (cl : List (Str × Addr)) (fp : List Addr), PI (X.blk s H scope (compEnvC scope cl B X.env) fp) tg1 iter1 (TID X.K C.nx fi1))
    (hg1 : ∀ (s : Shared) (H : Hp) (B : Addr) (cl : List (Str × Addr)) (fp : List Addr), PG (X.blk s H scope (compEnvC scope cl B X.env) fp) tg1 (TGD X.K C.nx p1 pv1))
    (ht1 : ∀ (s : Shared) (H : Hp) (B : Addr) (cl : List (Str × Addr)) (fp : List Addr), PTs (X.blk s H scope (compEnvC scope cl B X.env) fp) ifs1 (TB X.K C.nx t1))
    (he : ∀ (s : Shared) (H : Hp) (B : Addr) (cl : List (Str × Addr)) (fp : List Addr), PE (X.blk s H scope (compEnvC scope cl B X.env) fp) elt (TD X.K C.nx el))
    (hpv : ∀ i ∈ pv, i ∈ own.map (·.2) := by decide) (hpv1 : ∀ i ∈ pv1, i ∈ vs1 := by decide) (hs : ∀ x, foldedSetIterable iter X.env x = pure x := by intro _; rfl) (hs1 : ∀ env x, foldedSetIterable iter1 env x = pure x := by intro _ _; rfl) :
    PE X (.ListComp elt [⟨tg, iter, ifs, 0⟩, ⟨tg1, iter1, ifs1, 0⟩] scope pos) (TD X.K C (dLc2 fi (own.map (·.2)) vs1 p t fi1 p1 t1 el)) := PE.imp (pe_lc2 hc hN hi ok hv hg ht hi1 hg1 ht1 he hs hs1) fun _ _ _ h => td_lc2 hpv hpv1 hv h
theorem ds_setLc2 {i : Nat} {y : Str} {py spos : Pos} {ifs ifs1 : List Expr} {scope : Scope} {own : List (Str × Nat)} (hc : X.calm = true) (hN : X.N.Nodup) (hy : X.N[i]? = some y) (hyl : X.env.scope.names.lookup y = some .local)
    (hsw : swapsWith (.ListComp elt [⟨tg, iter, ifs, 0⟩, ⟨tg1, iter1, ifs1, 0⟩] scope pos) (some (.Name y py)) spos.line X.env = pure true) (hi : PI X tg iter (TID X.K C fi)) (ok : BlkOk X.N X.env.scope scope own) (hv : ∀ i ∈ vs1, i ∈ own.map (·.2))
    (hg : ∀ (s : Shared) (H : Hp) (B : Addr) (cl : List (Str × Addr)) (fp : List Addr), PG (X.blk s H scope (compEnvC scope cl B X.env) fp) tg (TGD X.K C.nx p pv))
    (ht : ∀ (s : Shared) (H : Hp) (B : Addr) (cl : List (Str × Addr)) (fp : List Addr), PTs (X.blk s H scope (compEnvC scope cl B X.env) fp) ifs (TB X.K C.nx t))
    (hi1 : ∀ (s : Shared) (H : Hp) (B : Addr) (cl : List (Str × Addr)) (fp : List Addr), PI (X.blk s H scope (compEnvC scope cl B X.env) fp) tg1 iter1 (TID X.K C.nx fi1))
    (hg1 : ∀ (s : Shared) (H : Hp) (B : Addr) (cl : List (Str × Addr)) (fp : List Addr), PG (X.blk s H scope (compEnvC scope cl B X.env) fp) tg1 (TGD X.K C.nx p1 pv1))
    (ht1 : ∀ (s : Shared) (H : Hp) (B : Addr) (cl : List (Str × Addr)) (fp : List Addr), PTs (X.blk s H scope (compEnvC scope cl B X.env) fp) ifs1 (TB X.K C.nx t1))
    (he : ∀ (s : Shared) (H : Hp) (B : Addr) (cl : List (Str × Addr)) (fp : List Addr), PE (X.blk s H scope (compEnvC scope cl B X.env) fp) elt (TD X.K C.nx el))
    (hpv : ∀ i ∈ pv, i ∈ own.map (·.2) := by decide) (hpv1 : ∀ i ∈ pv1, i ∈ vs1 := by decide) (hs : ∀ x, foldedSetIterable iter X.env x = pure x := by intro _; rfl) (hs1 : ∀ env x, foldedSetIterable iter1 env x = pure x := by intro _ _; rfl) :
    PS X (.Assign [.Name y py] (.ListComp elt [⟨tg, iter, ifs, 0⟩, ⟨tg1, iter1, ifs1, 0⟩] scope pos) spos) (TSD X.K C (dSet i (dLc2 fi (own.map (·.2)) vs1 p t fi1 p1 t1 el))) := PS.imp (ps_setLc2 hc hN hy hyl hsw hi ok hv hg ht hi1 hg1 ht1 he hs hs1) fun D σ H h => td_lc2 hpv hpv1 hv (tsd_set h)
end
end Dn

set_option Elab.async false
set_option linter.all false
set_option maxRecDepth 100000
set_option maxHeartbeats 4000000
namespace Dn
open PySem PySem.Spec PyProof.Rows L2
section
variable {K : PySem.W.Frag} {X : Cx} {C : Fr} {f fa fb fc t el : De} {fr : DeL} {fi : Di} {g g1 g2 : Ds} {σ σ' : L2.St} {H H' H1 : Hp} {a b c e tg : Expr} {es : List Expr} {pos : Pos} {env env' : List Sl} {fs fs' fs1 : List (List Addr)} {D : Ends} {vs : List Nat}
/-! ### a, b = x, y -/
def dPar2 (i j : Nat) (fa fb : De) : Ds := fun env => sOf ((fa env).bind fun r1 e1 => (fb e1).bind fun r2 e2 => .ok (r1, r2) e2) fun r e => match slot? r.1, slot? r.2 with
  | some s1, some s2 => .nx ((e.set i s1).set j s2)
  | _, _ => .bad
theorem tsd_par {i j : Nat} (h : TSD K C (dPar2 i j fa fb) D σ H) : tPar i j (tCons (TD K C fa) (tCons (TD K C fb) tNil)) D σ H := by
  obtain ⟨env, fs, E, h⟩ := h
  refine ⟨env, fs, E, (SAft.of E h).bind.imp fun r1 e1 H1 fs1 _ p1 s1 E1 h1 v1 q1 => ?_⟩
  refine ⟨e1, fs1, E1, h1.bind.imp fun r2 e2 H2 fs2 _ p2 s2 E2 h2 v2 q2 => ?_⟩
  have q1' := RvR.step E1 q1 p2 s2
  have z := h2 H2 fs2 .refl .refl E2
  dsimp only at z
  refine ⟨v1, v2, rfl, ?_⟩
  cases hs1 : slot? r1 with
  | none => rw [hs1] at z; exact z.elim
  | some sl1 =>
    cases hs2 : slot? r2 with
    | none => rw [hs1, hs2] at z; exact z.elim
    | some sl2 =>
      rw [hs1, hs2] at z
      have t1 : ∀ a, C.H0 a ≠ none → H1 a ≠ none := E1.there
      have step : ∀ {A1 : List Addr}, ER K C (e2.set i sl1) (σ.set i (some v1)) H2 (fs2.set i A1) → (∀ a ∈ A1, H1 a ≠ none) → ∃ fs3, ER K C ((e2.set i sl1).set j sl2) ((σ.set i (some v1)).set j (some v2)) H2 fs3 := fun {A1} E3 k => by
        cases r2 with
        | d x => cases hs2; exact ⟨_, E3.put ⟨rfl, v2, rfl, q2⟩ (by simp) (fun a h => by cases h) fun a h => by cases h⟩
        | rng lo hi => cases hs2; obtain ⟨a, e, h⟩ := q2; exact ⟨_, E3.put ⟨rfl, a, by rw [e], h⟩ (by simp) (fun a h => by cases h) fun a h => by cases h⟩
        | bo i => cases hs2
        | ow w =>
          cases hs2
          obtain ⟨A, o, n, hn⟩ := q2
          refine ⟨_, E3.put ⟨v2, rfl, o⟩ o.nodup (fun a ha y => ?_) fun a ha => Classical.byContradiction fun y => t1 a y (hn a ha)⟩
          rcases mem_flat_set y with y | y
          · exact k a y (hn a ha)
          · exact n a ha y
      have fin : ∀ {fs3}, ER K C ((e2.set i sl1).set j sl2) ((σ.set i (some v1)).set j (some v2)) H2 fs3 → D.nx ((σ.set i (some v1)).set j (some v2)) H2 := fun {fs3} E4 => z _ H2 fs3 .refl E4
      cases r1 with
      | d x =>
        cases hs1
        obtain ⟨fs3, E4⟩ := step (A1 := []) (E2.put ⟨rfl, v1, rfl, q1'⟩ (by simp) (fun a h => by cases h) fun a h => by cases h) fun a h => by cases h
        exact fin E4
      | rng lo hi =>
        cases hs1
        obtain ⟨a, e, h⟩ := q1'
        obtain ⟨fs3, E4⟩ := step (A1 := []) (E2.put ⟨rfl, a, by rw [e], h⟩ (by simp) (fun a h => by cases h) fun a h => by cases h) fun a h => by cases h
        exact fin E4
      | bo i => cases hs1
      | ow w =>
        cases hs1
        obtain ⟨A0, o0, n0, _⟩ := q1
        obtain ⟨A, o, n, hn⟩ := q1'
        have eA : A = A0 := by
          cases w with
          | lst xs => obtain ⟨a, _, ea, rfl, _⟩ := o; obtain ⟨b, _, eb, rfl, _⟩ := o0; rw [ea] at eb; cases eb; rfl
          | dct xs => obtain ⟨a, _, ea, rfl, _⟩ := o; obtain ⟨b, _, eb, rfl, _⟩ := o0; rw [ea] at eb; cases eb; rfl
          | deck ks x y z =>
            obtain ⟨a, c, ea, rfl, _, g1, _⟩ := o
            obtain ⟨b, d, eb, rfl, _, g2, g3⟩ := o0
            rw [ea] at eb; cases eb
            have g4 := p2.keep a _ g2 (n0 a (by simp)) (fun ps e => by cases e)
            rw [g1] at g4
            cases g4; rfl
        subst eA
        obtain ⟨fs3, E4⟩ := step (A1 := A) (E2.put ⟨v1, rfl, o⟩ o.nodup n fun a ha => Classical.byContradiction fun y => E.there a y (hn a ha)) fun a ha => by
          obtain ⟨u, hu, _⟩ := o0.wr a ha
          rw [hu]; simp
        exact fin E4
theorem ds_par {i j : Nat} {x y : Str} {px py pt : Pos} {kt k2 pt2} (hc : X.calm = true) (hN : X.N.Nodup) (hi : X.N[i]? = some x) (hj : X.N[j]? = some y) (hij : i ≠ j)
    (hx : X.env.scope.names.lookup x = some .local) (hy : X.env.scope.names.lookup y = some .local) (ha : PE X a (TD X.K C fa)) (hb : PE X b (TD X.K C fb))
    (hw : swappedStores [.Tuple [.Name x px, .Name y py] kt pt] (.Tuple [a, b] k2 pt2) X.env = pure (some [x, y]))
    (hs : swapsWithSole [.Tuple [.Name x px, .Name y py] kt pt] (.Tuple [a, b] k2 pt2) pos.line X.env = pure false := by rfl)
    (h1 : starEach [a, b] X.env = (false, eval a X.env) :: starEach [b] X.env := by rfl) (h2 : starEach [b] X.env = (false, eval b X.env) :: starEach [] X.env := by rfl) :
    PS X (.Assign [.Tuple [.Name x px, .Name y py] kt pt] (.Tuple [a, b] k2 pt2) pos) (TSD X.K C (dPar2 i j fa fb)) := PS.imp (ps_par hc hN hi hj hij hx hy (pa_cons ha (pa_cons hb pa_nil h2) h1) hw hs) fun _ _ _ h => tsd_par h

/-! ### a list that its slot owns -/
def setOw (env : List Sl) (i : Nat) (w : Ow) : List Sl := match env[i]? with
  | some (.le _) => env.set i (.le w)
  | _ => env.set i (.ow w)
def owAt (env : List Sl) (i : Nat) : Option Ow := match env[i]? with
  | some (.ow w) => some w
  | some (.le w) => some w
  | _ => none
theorem owAt_get (E : ER K C env σ H fs) {i : Nat} {w : Ow} (h : owAt env i = some w) : ∃ v A, σ[i]? = some (some v) ∧ fs[i]? = some A ∧ OwR K H w v A := by
  unfold owAt at h
  cases q : env[i]? with
  | none => rw [q] at h; cases h
  | some s =>
    rw [q] at h
    obtain ⟨o, A, h1, h2, h3⟩ := E.sl.get q
    cases s with
    | ow w' => cases h; obtain ⟨v, rfl, o⟩ := h3; exact ⟨v, A, h1, h2, o⟩
    | le w' => cases h; obtain ⟨v, rfl, o⟩ := h3; exact ⟨v, A, h1, h2, o⟩
    | un => cases h
    | d x => cases h
    | rng lo hi => cases h
    | scr ns => cases h
theorem setOw_ok {S : L2.St} {i : Nat} {w w' : Ow} {o : Option V} {A : List Addr} (h : owAt env i = some w) (r : SlR K H (.ow w') o A) {σ : L2.St} {fs : List (List Addr)} (q : SlRs K H (env.set i .un) σ fs) (e1 : σ[i]? = some o) (e2 : fs[i]? = some []) (hl : ∀ (j : Nat) (w : Ow), env[j]? = some (Sl.le w) → σ[j]? = S[j]?) :
    SlRs K H (setOw env i w') σ (fs.set i A) ∧ ∀ (j : Nat) (w : Ow), (setOw env i w')[j]? = some (Sl.le w) → σ[j]? = S[j]? := by
  have q3 := SlRs.put (s := .ow w') (o := o) (A := A) r i q
  have q4 := SlRs.put (s := .le w') (o := o) (A := A) r i q
  rw [set_self e1, List.set_set] at q3 q4
  unfold owAt at h; unfold setOw
  cases z : env[i]? with
  | none => rw [z] at h; cases h
  | some s =>
    rw [z] at h
    cases s with
    | ow w2 => exact ⟨q3, le_set hl fun w z => by cases z⟩
    | le w2 =>
      refine ⟨q4, fun j w e => ?_⟩
      by_cases y : i = j
      · subst y; exact hl i w2 z
      · rw [List.getElem?_set_ne y] at e; exact hl j w e
    | un => cases h
    | d x => cases h
    | rng lo hi => cases h
    | scr ns => cases h
theorem own_setOw {L : List Addr} {H0 : Hp} {i : Nat} {w w' : Ow} (hi : owAt env i = some w) (h : ∀ (i : Nat) (A : List Addr), fs[i]? = some A → ∀ a ∈ A, (H0 a = none ∧ ∀ w, env[i]? ≠ some (Sl.le w)) ∨ (a ∈ L ∧ ∃ w, env[i]? = some (Sl.le w))) :
    ∀ (j : Nat) (B : List Addr), fs[j]? = some B → ∀ a ∈ B, (H0 a = none ∧ ∀ w, (setOw env i w')[j]? ≠ some (Sl.le w)) ∨ (a ∈ L ∧ ∃ w, (setOw env i w')[j]? = some (Sl.le w)) := fun j B e a ha => by
  rcases h j B e a ha with z | ⟨z, w2, y⟩
  · refine .inl ⟨z.1, fun w3 y => ?_⟩
    unfold setOw at y
    by_cases q : i = j
    · subst q
      split at y
      · rename_i w4 y4; exact z.2 _ y4
      · by_cases l2 : i < env.length
        · rw [List.getElem?_set_self l2] at y; cases y
        · rw [List.getElem?_eq_none (by simpa using l2)] at y; cases y
    · split at y
      · rw [List.getElem?_set_ne q] at y; exact z.2 _ y
      · rw [List.getElem?_set_ne q] at y; exact z.2 _ y
  · refine .inr ⟨z, ?_⟩
    unfold setOw
    by_cases q : i = j
    · subst q
      rw [y]
      exact ⟨w', List.getElem?_set_self (List.getElem?_eq_some_iff.mp y).1⟩
    · refine ⟨w2, ?_⟩
      split
      · rw [List.getElem?_set_ne q]; exact y
      · rw [List.getElem?_set_ne q]; exact y
theorem setOw_le {i j : Nat} {w w' : Ow} (h : (setOw env i w')[j]? = some (Sl.le w)) : ∃ w2, env[j]? = some (Sl.le w2) := by
  unfold setOw at h
  by_cases q : i = j
  · subst q
    split at h
    · rename_i w4 y4; exact ⟨_, y4⟩
    · by_cases l2 : i < env.length
      · rw [List.getElem?_set_self l2] at h; cases h
      · rw [List.getElem?_eq_none (by simpa using l2)] at h; cases h
  · split at h
    · rw [List.getElem?_set_ne q] at h; exact ⟨_, h⟩
    · rw [List.getElem?_set_ne q] at h; exact ⟨_, h⟩
theorem ER.wrOwn (E : ER K C env σ H fs) {i : Nat} {xs : List PyData} (hi : owAt env i = some (.lst xs)) :
    ∃ a us, σ[i]? = some (some (.ref a)) ∧ H a = some (.lst us) ∧ FpL K H xs us ∧ ∀ ys ws, FpL K H ys ws → Stp fs.flatten H (upd H a (.lst ws)) ∧ ER K C (setOw env i (.lst ys)) σ (upd H a (.lst ws)) fs := by
  obtain ⟨v, A, h1, h2, a, us, rfl, rfl, e, f⟩ := owAt_get E hi
  have ma : a ∈ fs.flatten := mem_of_get h2 (List.mem_singleton.mpr rfl)
  refine ⟨a, us, h1, e, f, fun ys ws fw => ?_⟩
  have im : Im H (upd H a (.lst ws)) := im_upd e rfl
  have ap := flat_apart E.nd h2 (List.mem_singleton.mpr rfl)
  have q1 : SlRs K H (env.set i .un) (σ.set i (some (.ref a))) (fs.set i []) := SlRs.put (s := .un) (A := []) rfl i E.sl
  rw [set_self h1] at q1
  have q2 := SlRs.keep im q1 fun b hb u q => by rw [upd_ne (fun (z : b = a) => ap (by rw [← z]; exact hb))]; exact q
  have li : i < fs.length := (List.getElem?_eq_some_iff.mp h2).1
  obtain ⟨q3, q5⟩ := setOw_ok (S := C.S0) (w' := .lst ys) (A := [a]) hi ⟨_, rfl, a, ws, rfl, rfl, upd_same, FpL.im im _ _ fw⟩ q2 h1 (List.getElem?_set_self li) E.le
  rw [List.set_set, set_self h2] at q3
  refine ⟨⟨fun b u q n t => by rw [upd_ne (fun (z : b = a) => n (by rw [z]; exact ma))]; exact q, fun b q => ?_⟩, ⟨q3, E.nd, own_setOw hi E.own, fun b u q l t => ?_, fun b q => ?_, Tabs_upd E.tabs e rfl, q5, fun j w e => by obtain ⟨w2, y⟩ := setOw_le e; exact E.lf j w2 y⟩⟩
  · by_cases z : b = a
    · rw [z, upd_same]; simp
    · rw [upd_ne z]; exact q
  · rcases E.ownAny a ma with z | z
    · rw [upd_ne (fun (y : b = a) => by rw [y, z] at q; cases q)]; exact E.kept b u q l t
    · rw [upd_ne (fun (y : b = a) => l (by rw [y]; exact z))]; exact E.kept b u q l t
  · by_cases z : b = a
    · rw [z, upd_same]; simp
    · rw [upd_ne z]; exact E.there b q
def ownL (env : List Sl) (i : Nat) : Option (List PyData) := match owAt env i with
  | some (.lst xs) => some xs
  | _ => none
theorem ownL_of {i : Nat} {xs : List PyData} (h : ownL env i = some xs) : owAt env i = some (.lst xs) := by
  unfold ownL at h
  cases q : owAt env i with
  | none => rw [q] at h; cases h
  | some w => rw [q] at h; cases w <;> cases h; rfl
def dMeth (i : Nat) (m : List Rv → List Sl → List PyData → Option (PyData × List PyData)) (fr : DeL) : De := fun env => match ownL env i with
  | none => .bad
  | some _ => (fr env).bind fun rs e => match ownL e i with
    | none => .bad
    | some xs => match m rs e xs with
      | none => .bad
      | some (y, ys) => .ok (.d y) (setOw e i (.lst ys))
/-- a method of the slot's list: the receiver, then the arguments, then what it does -/
theorem td_meth {i : Nat} {r : V → List V → Hp → VK → Prop} {m : List Rv → List Sl → List PyData → Option (PyData × List PyData)} {Q : VK}
    (hr : ∀ H a us xs rs vs e y ys Hs fs (Q : VK), H a = some (.lst us) → FpL K H xs us → ER K C e σ H fs → RvRL K Hs σ H fs rs vs → m rs e xs = some (y, ys) →
      (∀ v ws, Fp K H y v → FpL K H ys ws → Q v (upd H a (.lst ws))) → r (.ref a) vs H Q)
    (h : TD K C (dMeth i m fr) σ H Q) : tBM K "list" r (tVar i) (TAD K C fr) σ H Q := by
  obtain ⟨env, fs, E, h⟩ := h
  unfold dMeth at h
  cases h0 : ownL env i with
  | none => rw [h0] at h; exact h.elim
  | some xs0 =>
    rw [h0] at h; dsimp only at h
    obtain ⟨a, us, k1, k2, k3, _⟩ := E.wrOwn (ownL_of h0)
    refine ⟨.ref a, k1, .inl ⟨rfl, us, .inl (.inl k2)⟩, env, fs, E, h.bind.imp fun rs e H1 fs1 _ p s E1 q vs rv => ?_⟩
    cases h1 : ownL e i with
    | none => rw [h1] at q; exact q.elim
    | some xs =>
      rw [h1] at q; dsimp only at q
      cases h2 : m rs e xs with
      | none => rw [h2] at q; exact q.elim
      | some yy =>
        obtain ⟨y, ys⟩ := yy
        rw [h2] at q; dsimp only at q
        obtain ⟨a', us', g1, g2, g3, g4⟩ := E1.wrOwn (ownL_of h1)
        rw [k1] at g1; cases g1
        refine hr H1 a us' xs rs vs e y ys _ fs1 Q g2 g3 E1 rv h2 fun v ws fy fw => ?_
        obtain ⟨p2, E2⟩ := g4 ys ws fw
        exact q _ fs1 p2 .refl E2 v (Fp.im (im_upd g2 rfl) _ _ fy)
def mApp : List Rv → List Sl → List PyData → Option (PyData × List PyData) := fun rs _ xs => match rs with
  | [.d y] => if xs.length < lim then some (.none, xs ++ [y]) else none
  | _ => none
theorem td_app {i : Nat} {Q : VK} (h : TD K C (dMeth i mApp fr) σ H Q) : tBM K "list" rAppend (tVar i) (TAD K C fr) σ H Q := td_meth (m := mApp) (fun H a us xs rs vs e y ys Hs fs Q hH hx _ rv hm q => by
  match rs, hm, rv with
  | [.d z], hm, rv =>
    obtain ⟨v, w, rfl, fz, h0⟩ := rv
    have h0 : w = [] := h0
    subst h0
    dsimp only [mApp] at hm
    split at hm
    · rename_i hl
      cases hm
      exact ⟨a, us, v, rfl, rfl, hH, by rw [hx.len]; exact lim_lt hl, q .non _ rfl (hx.app (FpL.one fz))⟩
    · cases hm) h
theorem de_app {i : Nat} {x : Str} {p apos cpos : Pos} {es : List Expr} (hx : PE X (.Name x p) (tVar i)) (ha : PA X (e :: es) (TAD X.K C fr))
    (hb : attributeBase (.Name x p) "append" X.env (eval (.Name x p) X.env) = eval (.Name x p) X.env := by rfl)
    (hf : ((backTo cpos (starEach (e :: es) X.env)).all (fun x => !x.1) && (backToKw cpos (keywordEach [] X.env)).all (fun x => x.1.isSome) && decide ((e :: es).length + ([] : List Keyword).length + (if ([] : List Keyword).isEmpty then 0 else 1) < 30)) = true := by rfl) (hl : (apos.endLine == cpos.line) = true := by rfl) (h1 : starEach (e :: es) X.env = (false, eval e X.env) :: starEach es X.env := by rfl) (h2 : (backTo cpos (starEach es X.env)).any (·.1) = false := by rfl) :
    PE X (.Call (.Attribute (.Name x p) "append" apos) (e :: es) [] cpos) (TD X.K C (dMeth i mApp fr)) := PE.imp (pe_bm PySem.F.plainAttrs_list PySem.F.slot_list_append PySem.F.type_list_append mt_append hx ha hb hf hl h1 h2) fun _ _ _ h => td_app h
end
end Dn

set_option Elab.async false
set_option linter.all false
set_option maxRecDepth 100000
set_option maxHeartbeats 4000000
namespace Dn
open PySem PySem.Spec PyProof.Rows L2
section
variable {K : PySem.W.Frag} {X : Cx} {C : Fr} {f fa fb fc t el : De} {fr : DeL} {fi : Di} {g g1 g2 : Ds} {σ σ' : L2.St} {H H' H1 : Hp} {a b c e tg : Expr} {es : List Expr} {pos : Pos} {env env' : List Sl} {fs fs' fs1 : List (List Addr)} {D : Ends} {vs : List Nat}
/-! ### extend, pop -/
/-- xs.extend(ys), ys any list that is read -/
def rExtendR : V → List V → Hp → VK → Prop := fun x vs H Q => ∃ l b xs zs, x = .ref l ∧ vs = [.ref b] ∧ H l = some (.lst xs) ∧ Rd H b (.lst zs) ∧ xs.length + zs.length ≤ sizeLine ∧ Q .non (upd H l (.lst (xs ++ zs)))
theorem mt_extendR : MtR X "list.extend" rExtendR := by
  intro pins s σ H x vs v us Q I rx rv h
  obtain ⟨l, b, xs, zs, rfl, rfl, hH, hB, hz, q⟩ := h
  cases rx
  obtain ⟨u, rfl, ru⟩ := rv.one
  cases ru
  obtain ⟨z, i1, n, r, hl, e⟩ := I.lstM hH
  obtain ⟨_, i2, n2, r2, e2⟩ := hB.ok I.hok
  have hl2 := r2.length
  have size2 : i1.toArray.size + i2.toArray.size ≤ sizeLine := by rw [List.size_toArray, List.size_toArray]; omega
  have short : ¬ (!i1.toArray.isEmpty && Builtin.List.listTooLong (i1.toArray.size + i2.toArray.size)) = true := by
    rw [notLongL size2, Bool.and_false]; exact Bool.false_ne_true
  refine call_meets F.slot_list_extend ⟨_, e, rfl⟩ F.entry_list_extend (F.args_list_extend_2 _ _)
    (AutoSeq1.list_extend_list_list_0 l i1.toArray n b i2.toArray n2 short (by rw [List.size_toArray]; omega) (by omega)) ⟨e, e2, .non, _, I.lset (its' := i1 ++ i2) hH e (by simp) (r.append r2) ?_, rfl, q⟩
  rw [List.length_append]; omega
def mExt : List Rv → List Sl → List PyData → Option (PyData × List PyData) := fun rs e xs => match rs with
  | [r] => (match r.val e with
    | some (.list ys) => if xs.length + ys.length ≤ lim then some (.none, xs ++ ys) else none
    | _ => none)
  | _ => none
theorem td_ext {i : Nat} {Q : VK} (h : TD K C (dMeth i mExt fr) σ H Q) : tBM K "list" rExtendR (tVar i) (TAD K C fr) σ H Q := td_meth (m := mExt) (fun H a us xs rs vs e y ys Hs fs Q hH hx E rv hm q => by
  match rs, hm, rv with
  | [r], hm, rv =>
    obtain ⟨v, w, rfl, rr, h0⟩ := rv
    have h0 : w = [] := h0
    subst h0
    dsimp only [mExt] at hm
    cases hv : r.val e with
    | none => rw [hv] at hm; cases hm
    | some d =>
      rw [hv] at hm
      cases d with
      | list zs =>
        dsimp only at hm
        split at hm
        · rename_i hl
          cases hm
          obtain ⟨b, ws, rfl, rd, fz⟩ := rr.tp E hv
          exact ⟨a, b, us, ws, rfl, rfl, hH, rd, by rw [hx.len, fz.len]; exact lim_size hl, q .non _ rfl (hx.app fz)⟩
        · cases hm
      | none => cases hm
      | bool b => cases hm
      | int b => cases hm
      | str b => cases hm
      | tuple b => cases hm
      | dict b => cases hm) h
theorem de_ext {i : Nat} {x : Str} {p apos cpos : Pos} {es : List Expr} (hx : PE X (.Name x p) (tVar i)) (ha : PA X (e :: es) (TAD X.K C fr))
    (hb : attributeBase (.Name x p) "extend" X.env (eval (.Name x p) X.env) = eval (.Name x p) X.env := by rfl)
    (hf : ((backTo cpos (starEach (e :: es) X.env)).all (fun x => !x.1) && (backToKw cpos (keywordEach [] X.env)).all (fun x => x.1.isSome) && decide ((e :: es).length + ([] : List Keyword).length + (if ([] : List Keyword).isEmpty then 0 else 1) < 30)) = true := by rfl) (hl : (apos.endLine == cpos.line) = true := by rfl)
    (h1 : starEach (e :: es) X.env = (false, eval e X.env) :: starEach es X.env := by rfl) (h2 : (backTo cpos (starEach es X.env)).any (·.1) = false := by rfl) :
    PE X (.Call (.Attribute (.Name x p) "extend" apos) (e :: es) [] cpos) (TD X.K C (dMeth i mExt fr)) := PE.imp (pe_bm PySem.F.plainAttrs_list PySem.F.slot_list_extend PySem.F.type_list_extend mt_extendR hx ha hb hf hl h1 h2) fun _ _ _ h => td_ext h
def mPopAt : List Rv → List Sl → List PyData → Option (PyData × List PyData) := fun rs _ xs => match rs with
  | [.d (.int i)] => if small62 i then (match seqIndex? i xs.length with
    | some k => (xs[k]?).map fun y => (y, xs.eraseIdx k)
    | none => none) else none
  | _ => none
theorem td_popAt {i : Nat} {Q : VK} (h : TD K C (dMeth i mPopAt fr) σ H Q) : tBM K "list" rPopAt (tVar i) (TAD K C fr) σ H Q := td_meth (m := mPopAt) (fun H a us xs rs vs e y ys Hs fs Q hH hx _ rv hm q => by
  match rs, hm, rv with
  | [.d (.int j)], hm, rv =>
    obtain ⟨v, w, rfl, fz, h0⟩ := rv
    have h0 : w = [] := h0
    subst h0
    rw [show v = V.int j from fz]
    dsimp only [mPopAt] at hm
    split at hm
    · rename_i hs
      simp only [small62, Bool.and_eq_true, decide_eq_true_eq] at hs
      cases hk : seqIndex? j xs.length with
      | none => rw [hk] at hm; cases hm
      | some k =>
        rw [hk] at hm; dsimp only at hm
        cases hy : xs[k]? with
        | none => rw [hy] at hm; cases hm
        | some d =>
          rw [hy] at hm; cases hm
          obtain ⟨u, h1, h2⟩ := hx.get hy
          exact ⟨a, us, j, k, u, rfl, rfl, hH, by omega, by omega, by rw [hx.len]; exact hk, h1, q u _ h2 (hx.erase k)⟩
    · cases hm) h
theorem de_popAt {i : Nat} {x : Str} {p apos cpos : Pos} {es : List Expr} (hx : PE X (.Name x p) (tVar i)) (ha : PA X (e :: es) (TAD X.K C fr))
    (hb : attributeBase (.Name x p) "pop" X.env (eval (.Name x p) X.env) = eval (.Name x p) X.env := by rfl)
    (hf : ((backTo cpos (starEach (e :: es) X.env)).all (fun x => !x.1) && (backToKw cpos (keywordEach [] X.env)).all (fun x => x.1.isSome) && decide ((e :: es).length + ([] : List Keyword).length + (if ([] : List Keyword).isEmpty then 0 else 1) < 30)) = true := by rfl) (hl : (apos.endLine == cpos.line) = true := by rfl)
    (h1 : starEach (e :: es) X.env = (false, eval e X.env) :: starEach es X.env := by rfl) (h2 : (backTo cpos (starEach es X.env)).any (·.1) = false := by rfl) :
    PE X (.Call (.Attribute (.Name x p) "pop" apos) (e :: es) [] cpos) (TD X.K C (dMeth i mPopAt fr)) := PE.imp (pe_bm PySem.F.plainAttrs_list PySem.F.slot_list_pop PySem.F.type_list_pop mt_popAt hx ha hb hf hl h1 h2) fun _ _ _ h => td_popAt h
def mPop : List PyData → Option (PyData × List PyData) := fun xs => (xs[xs.length - 1]?).map fun y => (y, xs.dropLast)
def dPop (i : Nat) : De := fun env => match ownL env i with
  | none => .bad
  | some xs => match mPop xs with
    | none => .bad
    | some (y, ys) => .ok (.d y) (setOw env i (.lst ys))
theorem td_pop {i : Nat} {Q : VK} (h : TD K C (dPop i) σ H Q) : tBM0 K "list" rPop (tVar i) σ H Q := by
  obtain ⟨env, fs, E, h⟩ := h
  unfold dPop at h
  cases h0 : ownL env i with
  | none => rw [h0] at h; exact h.elim
  | some xs =>
    rw [h0] at h; dsimp only [mPop] at h
    obtain ⟨a, us, k1, k2, k3, k4⟩ := E.wrOwn (ownL_of h0)
    cases hy : xs[xs.length - 1]? with
    | none => rw [hy] at h; exact h.elim
    | some y =>
      rw [hy] at h; dsimp only [Option.map] at h
      obtain ⟨v, h1, h2⟩ := k3.get hy
      refine ⟨.ref a, k1, .inl ⟨rfl, us, .inl (.inl k2)⟩, a, us, v, rfl, rfl, k2, by rw [k3.len]; exact h1, ?_⟩
      obtain ⟨p2, E2⟩ := k4 xs.dropLast us.dropLast k3.dropLast
      exact h _ fs p2 .refl E2 v (Fp.im (im_upd k2 rfl) _ _ h2)
theorem de_pop {i : Nat} {x : Str} {p apos cpos : Pos} (hx : PE X (.Name x p) (tVar i))
    (hb : attributeBase (.Name x p) "pop" X.env (eval (.Name x p) X.env) = eval (.Name x p) X.env := by rfl) (hl : (apos.endLine == cpos.line) = true := by rfl) :
    PE X (.Call (.Attribute (.Name x p) "pop" apos) [] [] cpos) (TD X.K C (dPop i)) := PE.imp (pe_bm0 PySem.F.plainAttrs_list PySem.F.slot_list_pop PySem.F.type_list_pop mt_pop hx hb hl) fun _ _ _ h => td_pop h
/-! ### slices -/
abbrev Do := List Sl → Res (Option Int)
def TOD (K : PySem.W.Frag) (C : Fr) (f : Do) : TO := fun σ H Q => ∃ env fs, ER K C env σ H fs ∧ After K C σ H fs (f env) fun o _ H' _ => Q o H'
theorem PO.imp' {e : Option Expr} {t t' : TO} (h : PO X e t) (i : ∀ σ H Q, t' σ H Q → t σ H Q) : PO X e t' := ⟨fun pins s σ H Q I q => h.run pins s σ H Q I (i σ H Q q)⟩
def oNo : Do := fun e => .ok none e
def oSome (f : De) : Do := fun env => (f env).bind fun r e => match r with
  | .d (.int i) => .ok (some i) e
  | _ => .bad
theorem do_no : PO X none (TOD X.K C oNo) := PO.imp' po_none fun σ H Q h => by
  obtain ⟨env, fs, E, h⟩ := h
  exact h H fs .refl .refl E
theorem do_some (h : PE X e (TD X.K C f)) : PO X (some e) (TOD X.K C (oSome f)) := PO.imp' (po_some h) fun σ H Q h => by
  obtain ⟨env, fs, E, h⟩ := h
  refine ⟨env, fs, E, h.bind.imp fun rv e H1 fs1 _ p s E1 q v rr => ?_⟩
  match rv, q, rr with
  | .d (.int i), q, rr => exact ⟨i, rr, q H1 fs1 .refl .refl E1⟩
def cutD (xs : List PyData) (lo hi : Option Int) : List PyData := (xs.drop (HT.sIx xs.length 0 lo)).take (HT.sIx xs.length xs.length hi - HT.sIx xs.length 0 lo)
theorem cut_fp {xs : List PyData} {us : List V} {lo hi : Option Int} (h : FpL K H xs us) : FpL K H (cutD xs lo hi) (cutV us lo hi) := by
  unfold cutD cutV
  rw [h.len]
  exact (h.drop _).take _
def gSlice : PyData → Option Int → Option Int → Option Rv
  | .list xs, lo, hi => some (.ow (.lst (cutD xs lo hi)))
  | .tuple xs, lo, hi => some (.d (.tuple (cutD xs lo hi)))
  | _, _, _ => none
def rSl (K : PySem.W.Frag) : V → Option Int → Option Int → Hp → VK → Prop := fun x lo hi H Q => rSlL K x lo hi H Q ∨ rSlA K x lo hi H Q
theorem sl_any : L2.SlR X (rSl X.K) := sl_list.or sl_tupA
def dSlice (fa : De) (lo hi : Do) : De := fun env => (fa env).bind fun r e1 => (lo e1).bind fun l e2 => (hi e2).bind fun u e3 => match r.val e3 with
  | some x => opt (gSlice x l u) e3
  | none => .bad
theorem cutD_whole {xs : List PyData} {lo hi : Option Int} (h : HT.sIx xs.length 0 lo = 0 ∧ HT.sIx xs.length xs.length hi = xs.length) : cutD xs lo hi = xs := by
  unfold cutD
  rw [h.1, h.2, List.drop_zero, Nat.sub_zero, List.take_length]
theorem td_slice {lo hi : Do} {Q : VK} (h : TD K C (dSlice fa lo hi) σ H Q) : tSl (rSl K) (TD K C fa) (TOD K C lo) (TOD K C hi) σ H Q := by
  obtain ⟨env, fs, E, h⟩ := h
  refine ⟨env, fs, E, h.bind.imp fun r e1 H1 fs1 _ p1 s1 E1 h1 x rx => ?_⟩
  refine ⟨e1, fs1, E1, h1.bind.imp fun l e2 H2 fs2 _ p2 s2 E2 h2 => ?_⟩
  refine ⟨e2, fs2, E2, h2.bind.imp fun u e3 H3 fs3 _ p3 s3 E3 h3 => ?_⟩
  have rx3 := RvR.step E2 (RvR.step E1 rx p2 s2) p3 s3
  have back : ∀ a, H a ≠ none → H3 a ≠ none := fun a z => p3.there a (p2.there a (p1.there a z))
  cases hv : r.val e3 with
  | none => rw [hv] at h3; exact h3.elim
  | some d =>
    rw [hv] at h3; dsimp only at h3
    have tp := rx3.tp E3 hv
    cases d with
    | list xs =>
      obtain ⟨a, us, rfl, rd, f⟩ := tp
      refine .inl ⟨a, us, rfl, .inl rd, fun p hp => ?_⟩
      obtain ⟨pp, E', r'⟩ := (ne_lst (K := K) hp (cut_fp (lo := l) (hi := u) f)).out E3
      exact h3 _ fs3 pp .refl E' _ (r'.back back)
    | tuple xs =>
      obtain ⟨a, us, rfl, st, f⟩ := tp
      refine .inr ⟨a, us, rfl, st, fun w => ?_, fun w p hp => ?_⟩
      · rw [f.len] at w
        have z : Ne K H3 H3 (.d (.tuple (cutD xs l u))) (.ref a) := by
          rw [cutD_whole w]
          exact Ne.same ⟨a, us, rfl, st, f⟩
        obtain ⟨pp, E', r'⟩ := z.out E3
        exact h3 _ fs3 pp .refl E' _ (r'.back back)
      · obtain ⟨pp, E', r'⟩ := (ne_tup (K := K) hp (cut_fp (lo := l) (hi := u) f)).out E3
        exact h3 _ fs3 pp .refl E' _ (r'.back back)
    | none => exact h3.elim
    | bool b => exact h3.elim
    | int b => exact h3.elim
    | str b => exact h3.elim
    | dict b => exact h3.elim
theorem de_slice {lo hi : Option Expr} {fl fh : Do} {p2 : Pos} (he : PE X e (TD X.K C fa)) (hl : PO X lo (TOD X.K C fl)) (hu : PO X hi (TOD X.K C fh)) : PE X (.Subscript e (.Slice lo hi none p2) pos) (TD X.K C (dSlice fa fl fh)) :=
  PE.imp (pe_slice sl_any he hl hu) fun _ _ _ h => td_slice h
/-- xs[::-1] of a list -/
def dRevL (fa : De) : De := fun env => (fa env).bind fun r e => match r.val e with
  | some (.list xs) => .ok (.ow (.lst xs.reverse)) e
  | _ => .bad
theorem de_revL {k : Nat} {p1 p2 p3 : Pos} (he : PE X e (TD X.K C fa)) : PE X (.Subscript e (.Slice none none (some (.UnaryOp .USub (.Constant (.int 1) k p1) p2)) p3) pos) (TD X.K C (dRevL fa)) := PE.imp (pe_revL he) fun σ H Q h => by
  obtain ⟨env, fs, E, h⟩ := h
  refine ⟨env, fs, E, h.bind.imp fun r e1 H1 fs1 _ p1 s1 E1 h1 x rx => ?_⟩
  cases hv : r.val e1 with
  | none => rw [hv] at h1; exact h1.elim
  | some d =>
    rw [hv] at h1
    cases d with
    | list xs =>
      obtain ⟨a, us, rfl, rd, f⟩ := rx.tp E1 hv
      refine ⟨a, us, rfl, .inl rd, fun p hp => ?_⟩
      obtain ⟨pp, E', r'⟩ := (ne_lst (K := X.K) hp f.rev).out E1
      exact h1 _ fs1 pp .refl E' _ (r'.back p1.there)
    | none => exact h1.elim
    | bool b => exact h1.elim
    | int b => exact h1.elim
    | str b => exact h1.elim
    | tuple b => exact h1.elim
    | dict b => exact h1.elim
/-! ### ranges -/
theorem rg_ints {a b : Int} : FpL K H (intsFrom a (b - a).toNat) (rgV a b) := by
  have e : rgV a b = (List.range (b - a).toNat).map fun (j : Nat) => V.int (a + j) := rfl
  rw [e]
  unfold intsFrom
  generalize List.range (b - a).toNat = l
  induction l with
  | nil => exact (rfl : ([] : List V) = [])
  | cons x l ih => exact ⟨_, _, rfl, rfl, ih⟩
def rgOk (a b : Int) : Bool := small62 a && small62 b && decide ((b - a).toNat ≤ 2 ^ 20)
def dListRg1 (fa : De) : De := fun env => (fa env).bind fun r e => match r with
  | .d (.int n) => if rgOk 0 n then .ok (.ow (.lst (intsFrom 0 (n - 0).toNat))) e else .bad
  | _ => .bad
theorem de_listRg1 {p p2 pos2 : Pos} (hc : X.calm = true) (hg : Gl X "list") (hm : X.mg "list" = none) (hg2 : Gl X "range") (hm2 : X.mg "range" = none) (ha : PE X a (TD X.K C fa))
    (na : starEach [a] X.env = (false, eval a X.env) :: starEach [] X.env := by rfl) (na2 : starEach [.Call (.Name "range" p2) [a] [] pos2] X.env = (false, eval (.Call (.Name "range" p2) [a] [] pos2) X.env) :: starEach [] X.env := by rfl) :
    PE X (.Call (.Name "list" p) [.Call (.Name "range" p2) [a] [] pos2] [] pos) (TD X.K C (dListRg1 fa)) := PE.imp (pe_listRg hc hg hm (prg_1 hg2 hm2 ha na) na2) fun σ H Q h => by
  obtain ⟨env, fs, E, h⟩ := h
  refine ⟨env, fs, E, h.bind.imp fun r e1 H1 fs1 _ p1 s1 E1 h1 x rx => ?_⟩
  match r, h1, rx with
  | .d (.int n), h1, rx =>
    refine ⟨n, rx, ?_⟩
    dsimp only at h1
    split at h1
    · rename_i ho
      simp only [rgOk, small62, Bool.and_eq_true, decide_eq_true_eq] at ho
      refine ⟨⟨by omega, by omega, by omega, by omega, by omega⟩, fun q hq => ?_⟩
      obtain ⟨pp, E', r'⟩ := (ne_lst (K := X.K) hq (rg_ints (a := 0) (b := n))).out E1
      exact h1 _ fs1 pp .refl E' _ (r'.back p1.there)
    · exact h1.elim
/-- range(n) as a value -/
theorem cr_range1 : CallR X (.type "range") (fun vs H Q => ∃ j, vs = [V.int j] ∧ ∀ p, H p = none → Q (.ref p) (upd H p (.rng 0 j))) := by
  intro pins s σ H vs us Q I r h
  obtain ⟨j, rfl, q⟩ := h
  obtain ⟨u1, rfl, rj⟩ := vals1 r
  obtain ⟨t, rfl⟩ := rj
  exact call_range_1 ⟨.ref s.heap.objs.size, upd H s.heap.objs.size (.rng 0 j), I.laid (t' := _) (fun b o e => Heap.get?_push_of_some _ e) (Nat.le_refl _) ⟨_, _, _, Heap.get?_push_size _ rfl⟩, rfl, q _ (I.hok.fresh (Nat.le_refl _))⟩
def gRange : List PyData → Option Rv
  | [.int j] => some (.rng 0 j)
  | _ => none
theorem cd_range : CallD K (fun vs H Q => ∃ j, vs = [V.int j] ∧ ∀ p, H p = none → Q (.ref p) (upd H p (.rng 0 j))) gRange := by
  intro H xs vs rv Q hx h k
  match xs, h with
  | [.int i], h =>
    obtain ⟨v, rfl, t⟩ := hx.one
    cases h
    rw [tp_int t]
    exact ⟨i, rfl, fun p hp => k _ _ ⟨Ex.new hp, p, rfl, upd_same⟩⟩
/-- a range that a name holds, walked -/
def iRng (i : Nat) : Di := fun env => match env[i]? with
  | some (.rng lo hi) => if small62 lo && small62 hi then .ok (intsFrom lo (hi - lo).toNat) env else .bad
  | _ => .bad
theorem pi_rngV {l : Expr} {tl : TE} (hl : PE X l tl) : PI X tg l (fun σ H R => tl σ H fun x H1 => ∃ a lo hi, x = .ref a ∧ H1 a = some (.rng lo hi) ∧ (-(2 ^ 62) ≤ lo ∧ lo < 2 ^ 62 ∧ -(2 ^ 62) ≤ hi ∧ hi < 2 ^ 62) ∧ R (Itr lo (hi - lo).toNat) H1) := ⟨fun pins s σ H R I h => thn (hl.run pins s σ H _ I h) fun v s1 hh => by
  obtain ⟨x, H1, I1, r1, a, lo, hi, rfl, ha, ⟨h1, h2, h3, h4⟩, q⟩ := hh
  cases r1
  obtain ⟨t, u, w, ho⟩ := I1.hok a _ ha
  refine wpAny_pyIter_range (show IsRange s1.heap a lo hi 1 t u w from ho) (small_one h1 h2 h3 h4) ?_
  refine ⟨_, [s1.heap.objs.size], _, _, H1, rfl, I1.kept (t' := s1.toks) fun b o e => Heap.get?_push_of_some _ e, turn_range _ lo (hi - lo).toNat, ?_, fun b hb => ?_, q⟩
  · show IsRangeIter _ _ (lo + ((0 : Nat) : Int) * 1) ((((hi - lo).toNat : Nat) : Int) - ((0 : Nat) : Int)) 1
    rw [show lo + ((0 : Nat) : Int) * 1 = lo by simp, show (((hi - lo).toNat : Nat) : Int) - ((0 : Nat) : Int) = Builtin.Range.rangeSize lo hi 1 by rw [rangeSize_one]; split <;> omega]
    exact Heap.get?_push_size _ rfl
  · rw [List.mem_singleton.mp hb]
    exact I1.fpOk (Nat.le_refl _) (I1.hok.fresh (Nat.le_refl _))⟩
theorem di_rng {i : Nat} {l : Expr} (hl : PE X l (tVar i)) : PI X tg l (TID X.K C (iRng i)) := PI.imp (pi_rngV hl) fun σ H R h => by
  obtain ⟨env, fs, E, h⟩ := h
  unfold iRng at h
  cases q : env[i]? with
  | none => rw [q] at h; exact h.elim
  | some s =>
    rw [q] at h
    cases s with
    | rng lo hi =>
      dsimp only at h
      split at h
      · rename_i ho
        simp only [small62, Bool.and_eq_true, decide_eq_true_eq] at ho
        obtain ⟨o, A, g1, g2, _, a, rfl, g3⟩ := E.sl.get q
        exact ⟨.ref a, g1, a, lo, hi, rfl, g3, ⟨ho.1.1, ho.1.2, ho.2.1, ho.2.2⟩, h H fs .refl .refl E _ itd_rng⟩
      · exact h.elim
    | un => exact h.elim
    | d x => exact h.elim
    | ow w => exact h.elim
    | le w => exact h.elim
    | scr ns => exact h.elim
/-! ### zip -/
def zipD (xs ys : List PyData) : List PyData := List.zipWith (fun x y => PyData.tuple [x, y]) xs ys
def iZip (fa fb : De) : Di := fun env => (fa env).bind fun r1 e1 => (fb e1).bind fun r2 e2 => match r1, r2 with
  | .d (.list xs), .d (.list ys) => .ok (zipD xs ys) e2
  | .d (.tuple xs), .d (.tuple ys) => .ok (zipD xs ys) e2
  | _, _ => .bad
theorem itd_zip {a b : Addr} {ds es : List PyData} {us ws : List V} (h1 : FzL H a us) (h2 : FzL H b ws) (f1 : FpL K H ds us) (f2 : FpL K H es ws) : ItD K (Itz K a b) (zipD ds es) H where
  go := fun i H' im hi => by
    unfold zipD at hi; rw [List.length_zipWith] at hi
    have l1 := f1.len; have l2 := f2.len
    exact ⟨us, ws, us[i], ws[i], .inl (h1.im im).rd, .inl (h2.im im).rd, List.getElem?_eq_getElem (by omega), List.getElem?_eq_getElem (by omega)⟩
  yld := fun i H1 x H2 im hi y => by
    obtain ⟨T, x1, x2, rfl, nT, rfl, k1, k2⟩ := y
    obtain ⟨d1, g1, p1⟩ := (FpL.im im _ _ f1).get' (k1 us (.inl (h1.im im).rd))
    obtain ⟨d2, g2, p2⟩ := (FpL.im im _ _ f2).get' (k2 ws (.inl (h2.im im).rd))
    have ex : Ex H1 (upd H1 T (.tup [x1, x2])) := Ex.new nT
    exact ⟨ex, .tuple [d1, d2], by unfold zipD; rw [List.getElem?_zipWith, g1, g2], T, _, rfl, .of upd_same, x1, _, rfl, Fp.im ex.im _ _ p1, x2, _, rfl, Fp.im ex.im _ _ p2, rfl⟩
  stop := fun i H' im hi => by
    unfold zipD at hi; rw [List.length_zipWith] at hi
    have l1 := f1.len; have l2 := f2.len
    exact ⟨us, ws, .inl (h1.im im).rd, .inl (h2.im im).rd, by omega⟩
theorem itd_zipT {a b : Addr} {ds es : List PyData} {us ws : List V} (h1 : SqT K H a us) (h2 : SqT K H b ws) (f1 : FpL K H ds us) (f2 : FpL K H es ws) : ItD K (RZ.ItzT K a b) (zipD ds es) H where
  go := fun i H' im hi => by
    unfold zipD at hi; rw [List.length_zipWith] at hi
    have l1 := f1.len; have l2 := f2.len
    exact ⟨us, ws, us[i], ws[i], sqT_im im h1, sqT_im im h2, List.getElem?_eq_getElem (by omega), List.getElem?_eq_getElem (by omega)⟩
  yld := fun i H1 x H2 im hi y => by
    obtain ⟨T, x1, x2, rfl, nT, rfl, k1, k2⟩ := y
    obtain ⟨d1, g1, p1⟩ := (FpL.im im _ _ f1).get' (k1 us (sqT_im im h1))
    obtain ⟨d2, g2, p2⟩ := (FpL.im im _ _ f2).get' (k2 ws (sqT_im im h2))
    have ex : Ex H1 (upd H1 T (.tup [x1, x2])) := Ex.new nT
    exact ⟨ex, .tuple [d1, d2], by unfold zipD; rw [List.getElem?_zipWith, g1, g2], T, _, rfl, .of upd_same, x1, _, rfl, Fp.im ex.im _ _ p1, x2, _, rfl, Fp.im ex.im _ _ p2, rfl⟩
  stop := fun i H' im hi => by
    unfold zipD at hi; rw [List.length_zipWith] at hi
    have l1 := f1.len; have l2 := f2.len
    exact ⟨us, ws, sqT_im im h1, sqT_im im h2, by omega⟩
theorem di_zip {p tpos : Pos} {elts : List Expr} {kk : Nat} (hg : Gl X "zip") (hm : X.mg "zip" = none) (ha : PE X a (TD X.K C fa)) (hb : PE X b (TD X.K C fb))
    (hs : starEach [a, b] X.env = (false, eval a X.env) :: starEach [b] X.env := by rfl) (hs2 : starEach [b] X.env = (false, eval b X.env) :: starEach [] X.env := by rfl) (hpl : (backTo pos (starEach [b] X.env)).any (·.1) = false := by rfl) :
    PI X (.Tuple elts kk tpos) (.Call (.Name "zip" p) [a, b] [] pos) (TID X.K C (iZip (dSto fa) (dSto fb))) := PI.imp (RZ.pi_zipA hg hm (pa_cons (de_sto ha) (pa_cons (de_sto hb) pa_nil hs2) hs) hs hpl) fun σ H R h => by
  obtain ⟨env, fs, E, h⟩ := h
  refine ⟨env, fs, E, h.bind.imp fun r1 e1 H1 fs1 _ p1 s1 E1 h1 v1 q1 => ?_⟩
  refine ⟨e1, fs1, E1, h1.bind.imp fun r2 e2 H2 fs2 _ p2 s2 E2 h2 v2 q2 => ?_⟩
  have q1' := RvR.step E1 q1 p2 s2
  match r1, r2, h2, q1', q2 with
  | .d (.list xs), .d (.list ys), h2, q1', q2 =>
    obtain ⟨a1, us, rfl, z1, f1⟩ := q1'
    obtain ⟨a2, ws, rfl, z2, f2⟩ := q2
    exact ⟨a1, a2, us, ws, rfl, .inl ⟨.inl z1.rd, .inl z2.rd, h2 H2 fs2 .refl .refl E2 _ (itd_zip z1 z2 f1 f2)⟩⟩
  | .d (.tuple xs), .d (.tuple ys), h2, q1', q2 =>
    obtain ⟨a1, us, rfl, z1, f1⟩ := q1'
    obtain ⟨a2, ws, rfl, z2, f2⟩ := q2
    exact ⟨a1, a2, us, ws, rfl, .inr ⟨z1, z2, h2 H2 fs2 .refl .refl E2 _ (itd_zipT z1 z2 f1 f2)⟩⟩
end
end Dn

set_option Elab.async false
set_option linter.all false
set_option maxRecDepth 100000
set_option maxHeartbeats 4000000
namespace Dn
open PySem PySem.Spec PyProof.Rows L2
/-! ### a def's promise by a function of data -/
inductive FRes where
  | ok (r : Rv) (outs : List Sl)
  | exc (c : Str) (x : PyData)
  | bad
abbrev Fn := List Sl → FRes
def noLe (as : List Sl) : Bool := as.all fun s => match s with
  | .le _ => false
  | _ => true
def argOk (as : List Sl) : Bool := as.all fun s => match s with
  | .d _ => true
  | .le _ => true
  | .scr _ => true
  | _ => false
def RetR (K : PySem.W.Frag) (H H' : Hp) : Rv → V → Prop
  | .d x, v => Fp K H' x v
  | .ow w, v => ∃ A, OwR K H' w v A ∧ ∀ a ∈ A, H a = none
  | _, _ => False
def spD (K : PySem.W.Frag) (T : List (Addr × Str)) (cls : Str → Addr) (np : Nat) (F : Fn) : Sp := fun vs H Q E => ∃ as fs, SlRs K H as (vs.map some) fs ∧ as.length = np ∧ argOk as = true ∧ fs.flatten.Nodup ∧ LamX.Tabs T H ∧ match F as with
  | .ok r outs => ∀ v H', Stp fs.flatten H H' → LamX.Tabs T H' → SlRs K H' outs (vs.map some) fs → RetR K H H' r v → Q v H'
  | .exc c x => ∀ d v H', Stp fs.flatten H H' → LamX.Tabs T H' → H' d = some (.xd [("thing", v)]) → Fp K H' x v → E (.ref (cls c)) (some d) H'
  | .bad => False
/-- as FnOk, where the guards of what runs around are known to be none -/
structure FnG (gd : Bool) (P : Program) (w : World) (K : PySem.W.Frag) (mg : Str → Option Value) (base : Heap) (k : Nat) (f : Addr) (fd : FuncData) (ps : List Str) (sp : Sp) : Prop where
  len : ∀ vs H Q E, sp vs H Q E → vs.length = ps.length
  run : ∀ (A : Around) (outer : List Env) (s : Shared) (H : Hp) (args : Args) (us : List Value) (vs : List V) (Q : VK) (E : XK), Room k A → (gd = true → A.guards = some []) → Env0 P w K mg base A outer s H → BindsTo s fd args (ps.zip us) → Vals vs us → sp vs H Q E →
    codeAny (model P w) A (.call (.ref f) args) (CR (L2.CX P w) outer P w H s Q E) s
theorem FnG.mono {gd : Bool} {P : Program} {w : World} {K : PySem.W.Frag} {mg : Str → Option Value} {base : Heap} {j k : Nat} {f : Addr} {fd : FuncData} {ps : List Str} {sp : Sp} (F : FnG gd P w K mg base j f fd ps sp) (h : j ≤ k) : FnG gd P w K mg base k f fd ps sp :=
  ⟨F.len, fun A outer s H args us vs Q E hr => F.run A outer s H args us vs Q E (hr.mono h)⟩
def outs? : List Sl → List Sl → Option (List Sl)
  | [], _ => some []
  | .le _ :: as, .le w :: es => (outs? as es).map (Sl.le w :: ·)
  | .d x :: as, _ :: es => (outs? as es).map (Sl.d x :: ·)
  | .scr x :: as, _ :: es => (outs? as es).map (Sl.scr x :: ·)
  | _ :: _, _ => none
def finF (as : List Sl) (r : Rv) (e : List Sl) : FRes := match r with
  | .d x => (match outs? as e with
    | some o => .ok (.d x) o
    | none => .bad)
  | .ow w => (match outs? as e with
    | some o => .ok (.ow w) o
    | none => .bad)
  | .bo i => (match e[i]? with
    | some (.ow w) => (match outs? as (e.set i .un) with
      | some o => .ok (.ow w) o
      | none => .bad)
    | some (.d x) => (match outs? as e with
      | some o => .ok (.d x) o
      | none => .bad)
    | _ => .bad)
  | .rng _ _ => .bad
def runF (g : Ds) (n : Nat) : Fn := fun as => match g (as ++ List.replicate (n - as.length) .un) with
  | .nx e => finF as (.d .none) e
  | .ret r e => finF as r e
  | .exc c x _ => if noLe as then .exc c x else .bad
  | _ => .bad
section
variable {K : PySem.W.Frag} {C : Fr} {env env' : List Sl} {σ σ' : L2.St} {H H' H1 : Hp} {fs fs' fs1 : List (List Addr)}
theorem SlRs.app : ∀ {s1 s2 : List Sl} {σ1 σ2 : L2.St} {f1 f2 : List (List Addr)}, SlRs K H s1 σ1 f1 → SlRs K H s2 σ2 f2 → SlRs K H (s1 ++ s2) (σ1 ++ σ2) (f1 ++ f2)
  | [], _, _, _, _, _, h, q => by rw [h.1, h.2]; exact q
  | s :: s1, _, _, _, _, _, ⟨o, os, A, As, e1, e2, h, t⟩, q => by subst e1; subst e2; exact ⟨o, _, A, _, rfl, rfl, h, SlRs.app t q⟩
theorem SlRs.uns : ∀ n : Nat, SlRs K H (List.replicate n .un) (List.replicate n none) (List.replicate n [])
  | 0 => ⟨rfl, rfl⟩
  | n + 1 => ⟨none, _, [], _, rfl, rfl, rfl, SlRs.uns n⟩
theorem flat_reps {fs : List (List Addr)} {n : Nat} : (fs ++ List.replicate n []).flatten = fs.flatten := by
  rw [List.flatten_append]
  have e : (List.replicate n ([] : List Addr)).flatten = [] := by
    induction n with
    | zero => rfl
    | succ n ih => rw [List.replicate_succ, List.flatten_cons, ih]; rfl
  rw [e, List.append_nil]
theorem outs_ok (im : Im H H') : ∀ {as e o : List Sl} {vs : List V} {σ : L2.St} {fs fs' : List (List Addr)}, outs? as e = some o → SlRs K H as (vs.map some) fs → SlRs K H' e σ fs' →
    (∀ (i : Nat) (w : Ow), i < as.length → e[i]? = some (Sl.le w) → σ[i]? = (vs.map some)[i]? ∧ fs'[i]? = fs[i]?) → SlRs K H' o (vs.map some) fs
  | [], e, o, vs, σ, fs, fs', ho, ha, he, hl => by
    cases ho
    rw [ha.1, ha.2]
    exact ⟨rfl, rfl⟩
  | a :: as, [], o, vs, σ, fs, fs', ho, ha, he, hl => by cases a <;> cases ho
  | a :: as, s :: es, o, vs, σ, fs, fs', ho, ha, he, hl => by
    obtain ⟨o1, os, A, As, e1, e2, ra, ta⟩ := ha
    obtain ⟨o2, σs, B, Bs, e3, e4, rb, tb⟩ := he
    cases vs with
    | nil => cases e1
    | cons v vs =>
      rw [List.map_cons] at e1
      cases e1; subst e2; subst e3; subst e4
      have hl' : ∀ (i : Nat) (w : Ow), i < as.length → es[i]? = some (Sl.le w) → σs[i]? = (vs.map some)[i]? ∧ Bs[i]? = As[i]? := fun i w hi q => by
        have z := hl (i + 1) w (by simpa using hi) (by simpa using q)
        simpa using z
      have go : ∀ {os' : List Sl}, outs? as es = some os' → SlRs K H' os' (vs.map some) As := fun h => outs_ok im h ta tb hl'
      have pass : ∀ {s' : Sl}, SlR K H' s' (some v) A → (outs? as es).map (s' :: ·) = some o → SlRs K H' o ((v :: vs).map some) (A :: As) := fun {s'} hs' ho => by
        cases q : outs? as es with
        | none => rw [q] at ho; cases ho
        | some os' =>
          rw [q] at ho; cases ho
          exact ⟨some v, _, A, As, rfl, rfl, hs', go q⟩
      cases a with
      | un => cases ho
      | ow w => cases ho
      | rng lo hi => cases ho
      | d x =>
        obtain ⟨h0, u, eu, fu⟩ := ra
        cases eu
        exact pass (s' := .d x) ⟨h0, v, rfl, Fp.im im _ _ fu⟩ ho
      | scr ns =>
        obtain ⟨h0, u, eu, fu⟩ := ra
        cases eu
        exact pass (s' := .scr ns) ⟨h0, v, rfl, fu.im im⟩ ho
      | le w =>
        cases s with
        | le w' =>
          cases q : outs? as es with
          | none => simp only [outs?, q] at ho; cases ho
          | some os' =>
            simp only [outs?, q] at ho; cases ho
            have hv := hl 0 w' (by simp) rfl
            have hv1 : o2 = some v := by simpa using hv.1
            have hv2 : B = A := by simpa using hv.2
            subst hv1; subst hv2
            exact ⟨some v, _, B, As, rfl, rfl, rb, go q⟩
        | un => cases ho
        | d x => cases ho
        | ow w => cases ho
        | rng lo hi => cases ho
        | scr ns => cases ho
end
section
variable {P : Program} {w : World} {K : PySem.W.Frag} {mg : Str → Option Value} {base : Heap}
/-- THE RULE: a def's body says g, so the def keeps the promise of g -/
theorem fn_den {gd : Bool} {x qual : Str} {st : Stmt} {f : Addr} {fd : FuncData} {N ps : List Str} {k np : Nat} {T : List (Addr × Str)} {cls : Str → Addr} {g : Ds} (F : Fun K x qual st f fd) (S : FnScope N ps (defScope st)) (hnp : ps.length = np) (hN : ps.length ≤ N.length)
    (hbody : ∀ (cdv : Value) (A : Around) (outer : List Env) (s : Shared) (H : Hp) (E : XK) (C : Fr), C.T = T → C.cls = cls → Room k (A.deeper (envOfC qual (defScope st) s.heap.objs.size f cdv)) → (gd = true → A.guards = some []) → PySem.W.codeIn K cdv qual = true → fd.code = cdv →
      (∀ cls d σ σ' H, C.W cls d σ H → C.W cls d σ' H) → Takes (cxOf (L2.CX P w) P w K mg base N qual (defScope st) f cdv A outer s H E) C.W →
      PSs (cxOf (L2.CX P w) P w K mg base N qual (defScope st) f cdv A outer s H E) (defBody st) (TSD K C g)) : FnG gd P w K mg base (k + 1) f fd ps (spD K T cls np (runF g N.length)) := by
  have hlen : ∀ vs H Q E, spD K T cls np (runF g N.length) vs H Q E → vs.length = ps.length := fun vs H Q E h => by
    obtain ⟨as, fs, h1, h2, _⟩ := h
    have := h1.len.1
    rw [List.length_map] at this
    omega
  refine ⟨hlen, fun A outer s H args us vs Q E hr hg e0 hb r h => ?_⟩
  obtain ⟨oc, od, kV, doc, pm, an, cdv, ct, osl, rfl, lk, hcd⟩ := F.ex
  have hl := hlen vs H Q E h
  refine LamX.run_ofS lk hcd S hr e0 hb r hl fun hr' => ?_
  obtain ⟨as, fs, hA, hn, hok, nd, tb, hF⟩ := h
  have hvl := hA.len.1
  rw [List.length_map] at hvl
  let C : Fr := { T := T, H0 := H, S0 := L2.start N vs, F0 := fs ++ List.replicate (N.length - as.length) [], L := fs.flatten, W := fun cls d _ H => E cls d H, cls := cls }
  refine ⟨TSD K C g, hbody cdv A outer s H E C rfl rfl hr' hg hcd rfl (fun _ _ _ _ _ h => h) (takes_of rfl rfl rfl rfl), ?_⟩
  have E0 : ER K C (as ++ List.replicate (N.length - as.length) .un) (L2.start N vs) H (fs ++ List.replicate (N.length - as.length) []) := by
    refine ⟨?_, ?_, fun i A hi a ha => ?_, fun a o h _ _ => h, fun a h => h, tb, fun _ _ _ => rfl, fun _ _ _ => rfl⟩
    · unfold L2.start
      rw [hvl]
      exact hA.app (SlRs.uns _)
    · rw [flat_reps]; exact nd
    · have l2 := hA.len.2
      by_cases z : i < fs.length
      · rw [List.getElem?_append_left z] at hi
        have li : i < as.length := by omega
        obtain ⟨s0, hs0⟩ : ∃ s0, as[i]? = some s0 := ⟨_, List.getElem?_eq_getElem li⟩
        obtain ⟨o, A', g1, g2, g3⟩ := hA.get hs0
        rw [hi] at g2; cases g2
        have ok := List.all_eq_true.mp hok s0 (List.mem_of_getElem? hs0)
        refine .inr ⟨mem_of_get hi ha, ?_⟩
        rw [List.getElem?_append_left li, hs0]
        cases s0 with
        | le w => exact ⟨w, rfl⟩
        | d x => rw [g3.1] at ha; cases ha
        | scr ns => rw [g3.1] at ha; cases ha
        | un => cases ok
        | ow w => cases ok
        | rng lo hi => cases ok
      · rw [List.getElem?_append_right (by omega)] at hi
        have := List.mem_of_getElem? hi
        rw [List.mem_replicate] at this
        rw [this.2] at ha; cases ha
  refine ⟨_, _, E0, ?_⟩
  unfold runF at hF
  -- what stands behind the body
  have fin : ∀ {rv : Rv} {e : List Sl} {v : V} {σ' : L2.St} {H' : Hp} {fs' : List (List Addr)}, Im H H' → ER K C e σ' H' fs' → RvR K H σ' H' fs' rv v →
      (match finF as rv e with
        | .ok r outs => ∀ v H', Stp fs.flatten H H' → LamX.Tabs T H' → SlRs K H' outs (vs.map some) fs → RetR K H H' r v → Q v H'
        | .exc c x => ∀ d v H', Stp fs.flatten H H' → LamX.Tabs T H' → H' d = some (.xd [("thing", v)]) → Fp K H' x v → E (.ref (cls c)) (some d) H'
        | .bad => False) → Q v H' := fun {rv e v σ' H' fs'} im E1 rr hq => by
    have st : Stp fs.flatten H H' := ⟨fun a o h n t => E1.kept a o h n t, fun a h => E1.there a h⟩
    have mk : ∀ {e : List Sl} {fs' : List (List Addr)} {o : List Sl} {r : Rv}, ER K C e σ' H' fs' → outs? as e = some o → RetR K H H' r v →
        (∀ v H', Stp fs.flatten H H' → LamX.Tabs T H' → SlRs K H' o (vs.map some) fs → RetR K H H' r v → Q v H') → Q v H' := fun {e fs' o r} E2 ho hret hq => by
      have h1 := outs_ok im ho hA E2.sl fun i w hi q => by
        refine ⟨?_, ?_⟩
        · rw [E2.le i w q]
          show (L2.start N vs)[i]? = _
          unfold L2.start
          rw [List.getElem?_append_left (by rw [List.length_map]; omega)]
        · rw [E2.lf i w q]
          show (fs ++ List.replicate (N.length - as.length) [])[i]? = _
          have := hA.len.2
          rw [List.getElem?_append_left (by omega)]
      exact hq v H' st E2.tabs h1 hret
    cases rv with
    | d x =>
      simp only [finF] at hq
      cases ho : outs? as e with
      | none => rw [ho] at hq; exact hq.elim
      | some o => rw [ho] at hq; exact mk (r := .d x) E1 ho rr hq
    | ow w' =>
      simp only [finF] at hq
      cases ho : outs? as e with
      | none => rw [ho] at hq; exact hq.elim
      | some o =>
        rw [ho] at hq
        obtain ⟨A', r1, r2, r3⟩ := rr
        exact mk (r := .ow w') E1 ho ⟨A', r1, r3⟩ hq
    | rng lo hi => exact hq.elim
    | bo i =>
      simp only [finF] at hq
      cases hs : e[i]? with
      | none => rw [hs] at hq; exact hq.elim
      | some sl =>
        rw [hs] at hq
        obtain ⟨o1, A', g1, g2, g3⟩ := E1.sl.get hs
        rw [show σ'[i]? = some (some v) from rr] at g1
        cases g1
        cases sl with
        | un => exact hq.elim
        | rng lo hi => exact hq.elim
        | scr ns => exact hq.elim
        | le w => exact hq.elim
        | d x =>
          simp only at hq
          cases ho : outs? as e with
          | none => rw [ho] at hq; exact hq.elim
          | some o =>
            rw [ho] at hq
            obtain ⟨_, u, eu, fu⟩ := g3
            cases eu
            exact mk (r := .d x) E1 ho fu hq
        | ow w' =>
          simp only at hq
          obtain ⟨u, eu, ow⟩ := g3
          cases eu
          have E2 : ER K C (e.set i .un) (σ'.set i (some v)) H' (fs'.set i []) := E1.put (s := .un) (A := []) rfl (by simp) (fun a h => by cases h) fun a h => by cases h
          rw [set_self (show σ'[i]? = some (some v) from rr)] at E2
          cases ho : outs? as (e.set i .un) with
          | none => rw [ho] at hq; exact hq.elim
          | some o =>
            rw [ho] at hq
            refine mk (r := .ow w') E2 ho ⟨A', ow, fun a ha => ?_⟩ hq
            rcases E1.own i A' g2 a ha with z | ⟨_, w3, z⟩
            · exact z.1
            · rw [hs] at z; cases z
  cases hg2 : g (as ++ List.replicate (N.length - as.length) .un) with
  | nx e =>
    rw [hg2] at hF
    exact fun σ' H' fs' im E1 => fin (rv := .d .none) im E1 rfl hF
  | ret rv e =>
    rw [hg2] at hF
    exact fun v σ' H' fs' im E1 rr => fin im E1 rr hF
  | exc c x e =>
    rw [hg2] at hF; dsimp only at hF
    intro d v σ' H' fs' im E1 hd hv
    by_cases hnl : noLe as = true
    · rw [if_pos hnl] at hF
      have st : Stp fs.flatten H H' := ⟨fun a o h n t => E1.kept a o h n t, fun a h => E1.there a h⟩
      exact hF d v H' st E1.tabs hd hv
    · rw [if_neg hnl] at hF; exact hF.elim
  | brk e => rw [hg2] at hF; exact hF.elim
  | ct e => rw [hg2] at hF; exact hF.elim
  | bad => rw [hg2] at hF; exact hF.elim
end
end Dn

set_option Elab.async false
set_option linter.all false
set_option maxRecDepth 100000
set_option maxHeartbeats 4000000
namespace Dn
open PySem PySem.Spec PyProof.Rows L2
/-! ### f(e, ..) -/
def argS (env : List Sl) : Rv → Option (Sl × Option Nat)
  | .d x => some (.d x, none)
  | .bo i => (match env[i]? with
    | some (.d x) => some (.d x, none)
    | some (.scr ns) => some (.scr ns, none)
    | some (.ow w) => some (.le w, some i)
    | some (.le w) => some (.le w, some i)
    | _ => none)
  | _ => none
def argsS (env : List Sl) : List Rv → Option (List Sl × List (Option Nat))
  | [] => some ([], [])
  | r :: rs => match argS env r, argsS env rs with
    | some (s, l), some (ss, ls) => some (s :: ss, l :: ls)
    | _, _ => none
def backS : List (Option Nat) → List Sl → List Sl → Option (List Sl)
  | [], [], e => some e
  | some i :: ls, .le w :: os, e => backS ls os (setOw e i w)
  | none :: ls, _ :: os, e => backS ls os e
  | _, _, _ => none
def footS (fs : List (List Addr)) : List (Option Nat) → List (List Addr) := List.map fun l => match l with
  | some i => fs.getD i []
  | none => []
def callF (np : Nat) (F : Fn) (rs : List Rv) (e : List Sl) : Res Rv := if rs.length = np then match argsS e rs with
  | some (as, ls) => if (ls.filterMap id).Nodup then (match F as with
    | .ok r outs => (match backS ls outs e with
      | some e' => .ok r e'
      | none => .bad)
    | .exc c x => if (ls.filterMap id).isEmpty then .exc c x e else .bad
    | .bad => .bad) else .bad
  | none => .bad
  else .bad
def dCall (np : Nat) (F : Fn) (fr : DeL) : De := fun env => (fr env).bind (callF np F)
section
variable {K : PySem.W.Frag} {C : Fr} {env env' e : List Sl} {σ σ' : L2.St} {H H' H1 : Hp} {fs fs' fs1 : List (List Addr)}
theorem foot_mem {ls : List (Option Nat)} {a : Addr} (h : a ∈ (footS fs ls).flatten) : ∃ i A, some i ∈ ls ∧ fs[i]? = some A ∧ a ∈ A := by
  obtain ⟨A, hA, ha⟩ := List.mem_flatten.mp h
  obtain ⟨l, hl, rfl⟩ := List.mem_map.mp hA
  cases l with
  | none => cases ha
  | some i =>
    dsimp only at ha
    rw [List.getD_eq_getElem?_getD] at ha
    cases q : fs[i]? with
    | none => rw [q] at ha; cases ha
    | some A => rw [q] at ha; exact ⟨i, A, hl, q, ha⟩
theorem flat_uniq {i j : Nat} {A B : List Addr} {a : Addr} (nd : fs.flatten.Nodup) (h1 : fs[i]? = some A) (h2 : fs[j]? = some B) (ha : a ∈ A) (hb : a ∈ B) : i = j := Classical.byContradiction fun n => by
  refine flat_apart nd h1 ha (mem_of_get (i := j) (A := B) ?_ hb)
  rw [List.getElem?_set_ne n]; exact h2
theorem foot_nodup (nd : fs.flatten.Nodup) : ∀ {ls : List (Option Nat)}, (ls.filterMap id).Nodup → (footS fs ls).flatten.Nodup
  | [], _ => by simp [footS]
  | none :: ls, h => by
    show (([] : List Addr) ++ (footS fs ls).flatten).Nodup
    rw [List.nil_append]
    exact foot_nodup nd (ls := ls) (by simpa using h)
  | some i :: ls, h => by
    rw [List.filterMap_cons] at h
    dsimp only [id] at h
    obtain ⟨h1, h2⟩ := List.nodup_cons.mp h
    show (fs.getD i [] ++ (footS fs ls).flatten).Nodup
    rw [List.nodup_append]
    have e1 : ∀ a ∈ fs.getD i [], ∃ A, fs[i]? = some A ∧ a ∈ A := fun a ha => by
      rw [List.getD_eq_getElem?_getD] at ha
      cases q : fs[i]? with
      | none => rw [q] at ha; cases ha
      | some A => rw [q] at ha; exact ⟨A, rfl, ha⟩
    refine ⟨?_, foot_nodup nd h2, fun a ha b hb z => ?_⟩
    · rw [List.getD_eq_getElem?_getD]
      cases q : fs[i]? with
      | none => simp
      | some A =>
        have : A.Sublist fs.flatten := List.sublist_flatten_of_mem (List.mem_of_getElem? q)
        exact this.nodup nd
    · subst z
      obtain ⟨A, g1, g2⟩ := e1 a ha
      obtain ⟨j, B, g3, g4, g5⟩ := foot_mem hb
      have := flat_uniq nd g1 g4 g2 g5
      subst this
      exact h1 (List.mem_filterMap.mpr ⟨_, g3, rfl⟩)
theorem args_rel {Hs : Hp} (E : ER K C e σ H fs) : ∀ {rs : List Rv} {vs : List V} {as : List Sl} {ls : List (Option Nat)}, RvRL K Hs σ H fs rs vs → argsS e rs = some (as, ls) →
    SlRs K H as (vs.map some) (footS fs ls) ∧ argOk as = true ∧ as.length = rs.length ∧ ls.length = rs.length ∧ ∀ (j i : Nat), ls[j]? = some (some i) → σ[i]? = (vs[j]?).map some ∧ ∃ w, owAt e i = some w
  | [], vs, as, ls, r, h => by
    cases h
    rw [show vs = [] from r]
    exact ⟨⟨rfl, rfl⟩, rfl, rfl, rfl, fun j i q => by simp at q⟩
  | r :: rs, vs, as, ls, ⟨v, ws, ev, hr, hq⟩, h => by
    subst ev
    unfold argsS at h
    cases h1 : argS e r with
    | none => rw [h1] at h; cases h
    | some p =>
      obtain ⟨s, l⟩ := p
      cases h2 : argsS e rs with
      | none => rw [h1, h2] at h; cases h
      | some q =>
        obtain ⟨ss, ls'⟩ := q
        rw [h1, h2] at h; cases h
        obtain ⟨g1, g2, g3, g4, g5⟩ := args_rel E hq h2
        have fin : ∀ {A : List Addr}, SlR K H s (some v) A → (footS fs [l] = [A]) → (argOk [s] = true) → (∀ i, l = some i → σ[i]? = some (some v) ∧ ∃ w, owAt e i = some w) →
            SlRs K H (s :: ss) ((v :: ws).map some) (footS fs (l :: ls')) ∧ argOk (s :: ss) = true ∧ (s :: ss).length = (r :: rs).length ∧ (l :: ls').length = (r :: rs).length ∧ ∀ (j i : Nat), (l :: ls')[j]? = some (some i) → σ[i]? = ((v :: ws)[j]?).map some ∧ ∃ w, owAt e i = some w := fun {A} k1 k2 k3 k4 => by
          refine ⟨⟨some v, _, A, footS fs ls', rfl, ?_, k1, g1⟩, ?_, by simp [g3], by simp [g4], fun j i z => ?_⟩
          · have : footS fs (l :: ls') = footS fs [l] ++ footS fs ls' := rfl
            rw [this, k2]; rfl
          · unfold argOk at k3 g2 ⊢
            rw [List.all_cons] at k3 ⊢
            rw [g2]
            simpa using k3
          · cases j with
            | zero => simp at z; simpa using k4 i z
            | succ j => simpa using g5 j i (by simpa using z)
        cases r with
        | d x => cases h1; exact fin (A := []) ⟨rfl, v, rfl, hr⟩ rfl rfl fun i z => by cases z
        | ow w => cases h1
        | rng lo hi => cases h1
        | bo i =>
          dsimp only [argS] at h1
          cases z : e[i]? with
          | none => rw [z] at h1; cases h1
          | some s0 =>
            rw [z] at h1
            obtain ⟨o, A, k1, k2, k3⟩ := E.sl.get z
            rw [show σ[i]? = some (some v) from hr] at k1
            cases k1
            have fa : footS fs [some i] = [A] := by
              show [fs.getD i []] = [A]
              rw [List.getD_eq_getElem?_getD, k2]; rfl
            cases s0 with
            | un => cases h1
            | rng lo hi => cases h1
            | d x => cases h1; obtain ⟨_, k3⟩ := k3; exact fin (A := []) ⟨rfl, k3⟩ rfl rfl fun i z => by cases z
            | scr ns => cases h1; obtain ⟨_, k3⟩ := k3; exact fin (A := []) ⟨rfl, k3⟩ rfl rfl fun i z => by cases z
            | ow w => cases h1; exact fin k3 fa rfl fun i' y => by cases y; exact ⟨hr, w, by unfold owAt; rw [z]⟩
            | le w => cases h1; exact fin k3 fa rfl fun i' y => by cases y; exact ⟨hr, w, by unfold owAt; rw [z]⟩
/-- behind a call: what stands at the places that are not yet given back is not known -/
structure Pd (K : PySem.W.Frag) (C : Fr) (L : List Nat) (env : List Sl) (σ : L2.St) (H : Hp) (fs : List (List Addr)) : Prop where
  ln : σ.length = env.length ∧ fs.length = env.length
  sl : ∀ (i : Nat) s o A, i ∉ L → env[i]? = some s → σ[i]? = some o → fs[i]? = some A → SlR K H s o A
  own : ∀ (i : Nat) (A : List Addr), fs[i]? = some A → ∀ a ∈ A, (C.H0 a = none ∧ ∀ w, env[i]? ≠ some (Sl.le w)) ∨ (a ∈ C.L ∧ ∃ w, env[i]? = some (Sl.le w))
  le : ∀ (i : Nat) (w : Ow), env[i]? = some (Sl.le w) → σ[i]? = C.S0[i]?
  lf : ∀ (i : Nat) (w : Ow), env[i]? = some (Sl.le w) → fs[i]? = C.F0[i]?
theorem setOw_len {i : Nat} {w : Ow} : (setOw e i w).length = e.length := by
  unfold setOw; split <;> simp
theorem setOw_ne {i j : Nat} {w : Ow} (h : i ≠ j) : (setOw e i w)[j]? = e[j]? := by
  unfold setOw; split <;> exact List.getElem?_set_ne h
theorem setOw_at {i : Nat} {w w' : Ow} (h : owAt e i = some w) : (setOw e i w')[i]? = some (.ow w') ∨ (setOw e i w')[i]? = some (.le w') := by
  unfold owAt at h
  cases q : e[i]? with
  | none => rw [q] at h; cases h
  | some s =>
    have l := (List.getElem?_eq_some_iff.mp q).1
    unfold setOw
    rw [q] at h ⊢
    cases s with
    | ow w2 => exact .inl (List.getElem?_set_self l)
    | le w2 => exact .inr (List.getElem?_set_self l)
    | un => cases h
    | d x => cases h
    | rng lo hi => cases h
    | scr ns => cases h
theorem setOw_le2 {i j : Nat} {w : Ow} {w' : Ow} (h : e[j]? = some (Sl.le w)) : ∃ w2, (setOw e i w')[j]? = some (Sl.le w2) := by
  by_cases z : i = j
  · subst z
    unfold setOw; rw [h]
    exact ⟨w', List.getElem?_set_self (List.getElem?_eq_some_iff.mp h).1⟩
  · exact ⟨w, by rw [setOw_ne z]; exact h⟩
theorem owAt_setOw {i j : Nat} {w w' w2 : Ow} (hi : owAt e i = some w) (h : owAt e j = some w2) : ∃ w3, owAt (setOw e i w') j = some w3 := by
  by_cases z : i = j
  · subst z
    unfold owAt
    rcases setOw_at (w' := w') hi with q | q <;> rw [q] <;> exact ⟨_, rfl⟩
  · refine ⟨w2, ?_⟩
    unfold owAt at h ⊢
    rw [setOw_ne z]; exact h
theorem back_ok : ∀ {ls : List (Option Nat)} {os : List Sl} {vs : List V} {e e' : List Sl}, backS ls os e = some e' → (ls.filterMap id).Nodup → SlRs K H os (vs.map some) (footS fs ls) → Pd K C (ls.filterMap id) e σ H fs →
    (∀ (j i : Nat), ls[j]? = some (some i) → σ[i]? = (vs[j]?).map some ∧ ∃ w, owAt e i = some w) → Pd K C [] e' σ H fs
  | [], [], vs, e, e', h, nd, r, p, k => by cases h; exact p
  | [], o :: os, vs, e, e', h, nd, r, p, k => by cases h
  | none :: ls, [], vs, e, e', h, nd, r, p, k => by cases h
  | some i :: ls, [], vs, e, e', h, nd, r, p, k => by cases h
  | none :: ls, o :: os, vs, e, e', h, nd, r, p, k => by
    obtain ⟨ov, oss, A, As, e1, e2, ro, rt⟩ := r
    cases vs with
    | nil => cases e1
    | cons v vs =>
      cases e1
      cases e2
      exact back_ok (ls := ls) (vs := vs) (os := os) h (by simpa using nd) rt (by simpa using p) fun j i q => by simpa using k (j + 1) i (by simpa using q)
  | some i :: ls, o :: os, vs, e, e', h, nd, r, p, k => by
    obtain ⟨ov, oss, A, As, e1, e2, ro, rt⟩ := r
    cases vs with
    | nil => cases e1
    | cons v vs =>
      cases e1
      cases e2
      rw [List.filterMap_cons] at nd p
      dsimp only [id] at nd p
      obtain ⟨nd1, nd2⟩ := List.nodup_cons.mp nd
      obtain ⟨z1, w0, z2⟩ := k 0 i rfl
      have z1 : σ[i]? = some (some v) := by simpa using z1
      cases o with
      | le w =>
        refine back_ok (ls := ls) (vs := vs) (os := os) (e := setOw e i w) h nd2 rt ⟨by rw [setOw_len]; exact p.ln, fun j s o B hj hs ho hB => ?_, own_setOw z2 p.own, fun j w e => ?_, fun j w e => ?_⟩ fun j i' q => ?_
        · by_cases q : i = j
          · subst q
            rw [z1] at ho; cases ho
            have eA : fs.getD i [] = B := by rw [List.getD_eq_getElem?_getD, hB]; rfl
            dsimp only at ro
            rw [eA] at ro
            rcases setOw_at (w' := w) z2 with y | y
            · rw [hs] at y; cases y; exact ro
            · rw [hs] at y; cases y; exact ro
          · rw [setOw_ne q] at hs
            exact p.sl j s o B (fun y => (List.mem_cons.mp y).elim (fun y => q y.symm) hj) hs ho hB
        · obtain ⟨w2, y⟩ := setOw_le e; exact p.le j w2 y
        · obtain ⟨w2, y⟩ := setOw_le e; exact p.lf j w2 y
        · obtain ⟨y1, w2, y2⟩ := k (j + 1) i' (by simpa using q)
          exact ⟨by simpa using y1, owAt_setOw z2 y2⟩
      | un => cases h
      | d x => cases h
      | ow w => cases h
      | rng lo hi => cases h
      | scr ns => cases h
end
section
variable {X : Cx} {C : Fr} {gd : Bool} {k np : Nat} {f : Addr} {fd : FuncData} {ps : List Str} {F : Fn} {fr : DeL} {x : Str} {p pos : Pos} {e : Expr} {es : List Expr} {σ : L2.St} {H Hs : Hp} {env : List Sl} {fs : List (List Addr)}
theorem flat_len {rs : List Rv} {vs : List V} (h : RvRL X.K Hs σ H fs rs vs) : vs.length = rs.length := by
  induction rs generalizing vs with
  | nil => rw [show vs = [] from h]; rfl
  | cons r rs ih => obtain ⟨v, ws, e, _, q⟩ := h; rw [e, List.length_cons, List.length_cons, ih q]
/-- the callee's promise is kept at these arguments -/
theorem sp_call {rs : List Rv} {vs : List V} {Q : VK} (E : ER X.K C env σ H fs) (hrv : RvRL X.K Hs σ H fs rs vs) (ht : ∀ a, Hs a ≠ none → H a ≠ none)
    (h : After X.K C σ H fs (callF np F rs env) fun rv _ H' fs' => ∀ v, RvR X.K Hs σ H' fs' rv v → Q v H') : spD X.K C.T C.cls np F vs H Q (WE C.W σ) := by
  unfold callF at h
  by_cases hnp : rs.length = np
  case neg => rw [if_neg hnp] at h; exact h.elim
  rw [if_pos hnp] at h
  cases h1 : argsS env rs with
  | none => rw [h1] at h; exact h.elim
  | some q =>
    obtain ⟨as, ls⟩ := q
    rw [h1] at h; dsimp only at h
    obtain ⟨g1, g2, g3, g4, g5⟩ := args_rel E hrv h1
    by_cases nd : (ls.filterMap id).Nodup
    · rw [if_pos nd] at h
      have fnd := foot_nodup E.nd nd
      have sub : ∀ a ∈ (footS fs ls).flatten, a ∈ fs.flatten := fun a ha => by
        obtain ⟨i, A, _, q1, q2⟩ := foot_mem ha
        exact mem_of_get q1 q2
      refine ⟨as, footS fs ls, g1, by omega, g2, fnd, E.tabs, ?_⟩
      have keep : ∀ {H' : Hp}, Stp (footS fs ls).flatten H H' → LamX.Tabs C.T H' → ∀ {e' : List Sl}, Pd X.K C [] e' σ H' fs → ER X.K C e' σ H' fs := fun {H'} st tb {e'} P1 =>
        ⟨SlRs.of P1.ln.1 P1.ln.2 fun i s o A a b c => P1.sl i s o A (by simp) a b c, E.nd, P1.own, fun a o q l t => st.keep a o (E.kept a o q l t) (fun z => by
            rcases E.ownAny a (sub a z) with y | y
            · rw [q] at y; cases y
            · exact l y) t, fun a q => st.there a (E.there a q), tb, P1.le, P1.lf⟩
      have P0 : ∀ {H' : Hp}, Stp (footS fs ls).flatten H H' → Pd X.K C (ls.filterMap id) env σ H' fs := fun {H'} st =>
        have st' : Stp fs.flatten H H' := ⟨fun a o q n t => st.keep a o q (fun z => n (sub a z)) t, st.there⟩
        have im := E.im st'
        ⟨E.sl.len, fun i s o A hi hs ho hA => by
            obtain ⟨o', A', q1, q2, q3⟩ := E.sl.get hs
            rw [ho] at q1; cases q1
            rw [hA] at q2; cases q2
            refine q3.keep im fun a ha u q => st.keep a u q (fun z => ?_) fun ps y => ?_
            · obtain ⟨j, B, y1, y2, y3⟩ := foot_mem z
              have := flat_uniq E.nd hA y2 ha y3
              subst this
              exact hi (List.mem_filterMap.mpr ⟨_, y1, rfl⟩)
            · obtain ⟨u', y1, y2⟩ := q3.wr a ha
              rw [q] at y1; cases y1
              exact wr_tbl y2 ps y, E.own, E.le, E.lf⟩
      cases h2 : F as with
      | bad => rw [h2] at h; exact h.elim
      | exc c x =>
        rw [h2] at h; dsimp only at h
        intro d v H' st tb hd hv
        by_cases em : (ls.filterMap id).isEmpty = true
        · rw [if_pos em] at h
          have st' : Stp fs.flatten H H' := ⟨fun a o q n t => st.keep a o q (fun z => n (sub a z)) t, st.there⟩
          have P1 := P0 st
          rw [List.isEmpty_iff.mp em] at P1
          exact h d v H' fs st' .refl (keep st tb P1) hd hv
        · rw [if_neg em] at h; exact h.elim
      | ok r outs =>
        rw [h2] at h; dsimp only at h
        cases h3 : backS ls outs env with
        | none => rw [h3] at h; exact h.elim
        | some e' =>
          rw [h3] at h
          intro v H' st tb so rr
          have st' : Stp fs.flatten H H' := ⟨fun a o q n t => st.keep a o q (fun z => n (sub a z)) t, st.there⟩
          have E' := keep st tb (back_ok h3 nd so (P0 st) g5)
          refine h H' fs st' .refl E' v ?_
          cases r with
          | d x => exact rr
          | ow w =>
            obtain ⟨A, r1, r2⟩ := rr
            exact ⟨A, r1, fun a ha => E.notIn (r2 a ha), fun a ha => Classical.byContradiction fun z => ht a z (r2 a ha)⟩
          | bo i => exact rr.elim
          | rng lo hi => exact rr.elim
    · rw [if_neg nd] at h; exact h.elim
variable {g1 : De}
theorem run_fnG {pins : List (Addr × Obj)} {s : Shared} {Q : VK} {us : List Value} {vs : List V} {sp : Sp} {E : L2.St → XK} (FG : FnG gd X.prog X.w X.K X.mg X.base k f fd ps sp) (hr : Room k X.A) (hg : gd = true → X.A.guards = some []) (hb : Binds X.K fd ps []) (hx : PassesAt (L2.CX X.prog X.w) X σ (E σ))
    (I : Inv X pins σ H s) (r : Vals vs us) (h : sp vs H Q (E σ)) : wpAny (model X.prog X.w) X.A (call (.ref f) us) (EP X pins σ Q) X.xe s := by
  have hl : us.length = ps.length := by rw [← r.length]; exact FG.len _ _ _ _ h
  have hb' := hb s us I.kIn (by rw [List.append_nil]; exact hl)
  rw [List.append_nil] at hb'
  refine wpAny_call (codeAny_mono (FG.run X.A X.stack s H ⟨us, []⟩ us vs Q (E σ) hr hg I.env0 hb' r h) fun r s' hq => ?_)
  cases r with
  | error e => exact hx pins H s e s' I hq
  | ok fl =>
    cases fl with
    | ret u => exact I.after hq
    | next => exact False.elim hq
    | brk => exact False.elim hq
    | cont => exact False.elim hq
theorem de_call (FG : FnG gd X.prog X.w X.K X.mg X.base k f fd ps (spD X.K C.T C.cls np F)) (hr : Room k X.A) (hg : gd = true → X.A.guards = some []) (tk : Takes X C.W) (hn : Gl X x) (hm : X.mg x = some (.ref f)) (hk : PySem.W.keepIn X.K (.ref f) = true) (hb : Binds X.K fd ps [])
    (ha : PA X (e :: es) (TAD X.K C fr)) (hdb : (x == ("__debug__" : Str)) = false := by decide) (he : starEach (e :: es) X.env = (false, eval e X.env) :: starEach es X.env := by rfl) (hpl : (backTo pos (starEach es X.env)).any (·.1) = false := by rfl) :
    PE X (.Call (.Name x p) (e :: es) [] pos) (TD X.K C (dCall np F fr)) := by
  refine ⟨fun pins s σ H Q I h => ?_⟩
  refine wpAny_Call_Name_kw (ld_glob I hn hm ?_ hdb)
  obtain ⟨env, fs, E, h⟩ := h
  refine PySem.W.callWith_K (h₀ := X.base) I.ok.mod.kin hk (thn (ha.run pos pins s σ H (fun vs H1 => spD X.K C.T C.cls np F vs H1 Q (WE C.W σ)) I ⟨env, fs, E, h.bind.imp fun rs e1 H1 fs1 hok p1 s1 E1 h1 vs rv => ?_⟩) fun us s1 ⟨vs, H1, I1, r, q⟩ => ⟨I1.kIn, ?_⟩) he hpl
  · exact sp_call E1 rv p1.there h1
  · exact run_fnG (E := WE C.W) FG hr hg hb (passAt tk σ) I1 r q
end
end Dn

set_option Elab.async false
set_option linter.all false
set_option maxRecDepth 100000
set_option maxHeartbeats 4000000
namespace Dn
open PySem PySem.Spec PyProof.Rows L2
/-! ### isinstance -/
inductive Ty6 where | int | bool | str | tup | lst | dct
def Ty6.nm : Ty6 → String
  | .int => "int"
  | .bool => "bool"
  | .str => "str"
  | .tup => "tuple"
  | .lst => "list"
  | .dct => "dict"
def tyD : PyData → String
  | .none => "NoneType"
  | .bool _ => "bool"
  | .int _ => "int"
  | .str _ => "str"
  | .tuple _ => "tuple"
  | .list _ => "list"
  | .dict _ => "dict"
def isiD : Ty6 → PyData → Bool
  | .int, .int _ => true
  | .int, .bool _ => true
  | .bool, .bool _ => true
  | .str, .str _ => true
  | .tup, .tuple _ => true
  | .lst, .list _ => true
  | .dct, .dict _ => true
  | _, _ => false
theorem kit_isi (t : Ty6) (x : PyData) : kitB (tyD x) t.nm = some (isiD t x) := by
  cases t <;> cases x <;> (dsimp only [tyD, Ty6.nm, isiD]; decide +kernel)
section
variable {K : PySem.W.Frag} {X : Cx} {C : Fr} {f fa fb : De} {fr : DeL} {H : Hp} {σ : L2.St} {v : V} {x : PyData} {e : Expr} {pos : Pos}
theorem ty_sq {a : Addr} {vs : List V} (h : SqT K H a vs) : TyX K H (.ref a) (.type "tuple") := by
  rcases h with (h | ⟨o, h⟩) | ⟨o, its, n, h1, h2, _⟩
  · exact .base (.tup h)
  · exact .fTuple h
  · exact .kTuple h1 h2
theorem Tp.ty (h : Tp K H x v) : TyX K H v (.type (tyD x)) := by
  cases x with
  | none => rw [show v = .non from h]; exact .base .non
  | bool b => rw [show v = .bl b from h]; exact .base (.bl b)
  | int i => rw [show v = .int i from h]; exact .base (.int i)
  | str s => rw [show v = .str s from h]; exact .base (.str s)
  | tuple ds => obtain ⟨a, vs, rfl, s, f⟩ := h; exact ty_sq s
  | list ds =>
    obtain ⟨a, vs, rfl, s, f⟩ := h
    rcases s with s | ⟨o, s⟩
    · exact .base (.lst s)
    · exact .base (.frz s)
  | dict kvs => obtain ⟨_, a, o, rfl, s⟩ := h; exact .fDict s
def gIsi (t : Ty6) : PyData → Option Rv := fun x => some (.d (.bool (isiD t x)))
/-- isinstance(e, T) -/
theorem de_isi (t : Ty6) {p p2 : Pos} (hn : Gl X "isinstance") (hm : X.mg "isinstance" = none) (hn2 : Gl X (.ofString t.nm)) (hm2 : X.mg (.ofString t.nm) = none) (he : PE X e (TD X.K C f))
    (hv : bootBuiltins (.ofString t.nm) = some (.type t.nm) := by rfl)
    (h0 : (Str.ofString t.nm) ≠ "__name__" := by decide) (h01 : ((Str.ofString t.nm) == ("__debug__" : Str)) = false := by decide)
    (h1 : starEach (e :: [Expr.Name (.ofString t.nm) p2]) X.env = (false, eval e X.env) :: starEach [Expr.Name (.ofString t.nm) p2] X.env := by rfl)
    (h11 : starEach [Expr.Name (.ofString t.nm) p2] X.env = (false, eval (Expr.Name (.ofString t.nm) p2) X.env) :: starEach [] X.env := by rfl)
    (h2 : (backTo pos (starEach [Expr.Name (.ofString t.nm) p2] X.env)).any (·.1) = false := by rfl) : PE X (.Call (.Name "isinstance" p) (e :: [.Name (.ofString t.nm) p2]) [] pos) (TD X.K C (dUn (gIsi t) f)) :=
  PE.imp (pe_callB call_isi hn hm rfl (pa_cons he (pa_cons (pe_bltn (v := .ty t.nm) hn2 hm2 hv rfl h0 h01) pa_nil h11) h1) (by decide) (by decide) h1 h2) fun σ H Q h => by
    have := td_un (r := fun v H Q => rIsi X.K [v, .ty t.nm] H Q) (g := gIsi t) (fun H x vx rv Q hx hz k => by
      cases hz
      exact ⟨vx, .ty t.nm, _, _, _, rfl, .ty t.nm, hx.ty, kit_ty (kit_isi t x), k _ _ (Ne.same rfl)⟩) h
    exact this
/-- isinstance(e, (T, U)) -/
def gIsi2 (t u : Ty6) : PyData → Option Rv := fun x => some (.d (.bool (isiD t x || isiD u x)))
theorem de_isi2 (t u : Ty6) {p p2 p3 pt : Pos} {kt} (hn : Gl X "isinstance") (hm : X.mg "isinstance" = none) (hn2 : Gl X (.ofString t.nm)) (hm2 : X.mg (.ofString t.nm) = none) (hn3 : Gl X (.ofString u.nm)) (hm3 : X.mg (.ofString u.nm) = none) (he : PE X e (TD X.K C f))
    (hv : bootBuiltins (.ofString t.nm) = some (.type t.nm) := by rfl) (hv3 : bootBuiltins (.ofString u.nm) = some (.type u.nm) := by rfl)
    (h0 : (Str.ofString t.nm) ≠ "__name__" := by decide) (h01 : ((Str.ofString t.nm) == ("__debug__" : Str)) = false := by decide)
    (h03 : (Str.ofString u.nm) ≠ "__name__" := by decide) (h013 : ((Str.ofString u.nm) == ("__debug__" : Str)) = false := by decide)
    (g1 : starEach [Expr.Name (.ofString t.nm) p2, Expr.Name (.ofString u.nm) p3] X.env = (false, eval (Expr.Name (.ofString t.nm) p2) X.env) :: starEach [Expr.Name (.ofString u.nm) p3] X.env := by rfl)
    (g2 : starEach [Expr.Name (.ofString u.nm) p3] X.env = (false, eval (Expr.Name (.ofString u.nm) p3) X.env) :: starEach [] X.env := by rfl)
    (h1 : starEach (e :: [Expr.Tuple [.Name (.ofString t.nm) p2, .Name (.ofString u.nm) p3] kt pt]) X.env = (false, eval e X.env) :: starEach [Expr.Tuple [.Name (.ofString t.nm) p2, .Name (.ofString u.nm) p3] kt pt] X.env := by rfl)
    (h11 : starEach [Expr.Tuple [.Name (.ofString t.nm) p2, .Name (.ofString u.nm) p3] kt pt] X.env = (false, eval (Expr.Tuple [.Name (.ofString t.nm) p2, .Name (.ofString u.nm) p3] kt pt) X.env) :: starEach [] X.env := by rfl)
    (h2 : (backTo pos (starEach [Expr.Tuple [.Name (.ofString t.nm) p2, .Name (.ofString u.nm) p3] kt pt] X.env)).any (·.1) = false := by rfl) :
    PE X (.Call (.Name "isinstance" p) (e :: [.Tuple [.Name (.ofString t.nm) p2, .Name (.ofString u.nm) p3] kt pt]) [] pos) (TD X.K C (dUn (gIsi2 t u) f)) :=
  PE.imp (pe_callB call_isiT hn hm rfl (pa_cons he (pa_cons (pe_tup (pa_cons (pe_bltn (v := .ty t.nm) hn2 hm2 hv rfl h0 h01) (pa_cons (pe_bltn (v := .ty u.nm) hn3 hm3 hv3 rfl h03 h013) pa_nil g2) g1)) pa_nil h11) h1) (by decide) (by decide) h1 h2) fun σ H Q h => by
    have := td_un (r := fun v H Q => [V.ty t.nm, V.ty u.nm].length ≤ sizeLine ∧ ∀ a, H a = none → rIsiT X.K [v, .ref a] (upd H a (.tup [.ty t.nm, .ty u.nm])) Q) (g := gIsi2 t u) (fun H x vx rv Q hx hz k => ⟨by rw [sizeLine_eq]; show 2 ≤ 16777216; decide, fun a ha => by
      cases hz
      refine ⟨vx, a, [.ty t.nm, .ty u.nm], _, [.type t.nm, .type u.nm], isiD t x || isiD u x, rfl, upd_same, .cons (.ty _) (.cons (.ty _) .nil), Tp.ty (x := x) ?_, ?_, k _ _ ⟨Ex.new ha, rfl⟩⟩
      · cases x with
        | list ds =>
          obtain ⟨b, vs, e, s, f⟩ := hx
          refine ⟨b, vs, e, ?_, FpL.im (Ex.new ha).im _ _ f⟩
          rcases s with s | ⟨o, s⟩
          · exact .inl (Ex.new ha _ _ s)
          · exact .inr ⟨o, Ex.new ha _ _ s⟩
        | none => exact Fp.im (Ex.new ha).im _ _ hx
        | bool b => exact Fp.im (Ex.new ha).im _ _ hx
        | int i => exact Fp.im (Ex.new ha).im _ _ hx
        | str s => exact Fp.im (Ex.new ha).im _ _ hx
        | tuple ds => exact Fp.im (Ex.new ha).im _ _ hx
        | dict kvs => exact Fp.im (Ex.new ha).im _ _ hx
      · refine kitAny_cons (kit_ty (kit_isi t x)) (fun z => ?_) (fun z => by rw [z]; rfl)
        rw [z, Bool.false_or]
        exact kitAny_cons (kit_ty (kit_isi u x)) (fun z => by rw [z]; exact kitAny_nil) fun z => z⟩) h
    exact this
end
end Dn

set_option Elab.async false
set_option linter.all false
set_option maxRecDepth 100000
set_option maxHeartbeats 4000000
/-! ### sorted(t), t a tuple -/
namespace SrtO
open PySem PyProof.Rows Srt
section
variable {prog : Program} {w : World} {A : Around} {E : Value → Shared → Prop} {s : Shared}
theorem colT {t : Addr} {us : List Value} {R : List Value → Shared → Prop} (ht : s.heap.IsTuple t us.toArray) (hz : us.length ≤ sizeLine)
    (k : R us { s with heap := (s.heap.push (seqObj "list" #[] 0)).update s.heap.objs.size (Obj.mapSeq (· ++ us.toArray)) }) : wpAny (model prog w) A (collect (.ref t)) R E s := by
  obtain ⟨ob, g1, g2, m, g3⟩ := id ht
  have g4 : (s.heap.push (seqObj "list" #[] 0)).get? t = some ob := Heap.get?_push_of_some _ g1
  have new0 : (s.heap.push (seqObj "list" #[] 0)).get? s.heap.objs.size = some (seqObj "list" #[] 0) := Heap.get?_push_size _ rfl
  unfold collect; refine wpAny_bind (wpAny_runValue (codeAny_builtin entry_proto_collect' ?_))
  show wpAny _ _ (do again (.builtin "list.__iadd__" ⟨[← newList [], .ref t], []⟩)) _ _ s
  refine wpAny_bind (wpAny_newList <| wpAny_pure ⟨Code.quiet_builtin _ (by decide +kernel), codeAny_builtin entry_list_iadd' ?_⟩)
  show wpAny _ _ (Builtin.List.listExtendWith (.ref s.heap.objs.size) (.ref t) (.ref s.heap.objs.size)) _ _ { s with heap := s.heap.push (seqObj "list" #[] 0) }
  unfold Builtin.List.listExtendWith; refine wpAny_bind (wpAny_typeOf (T := "tuple") ⟨ob, g4, g2⟩ ?_)
  rw [if_pos (by rw [show (Value.type "tuple" == Value.type "tuple") = true from by rfl, Bool.or_true])]
  refine wpAny_bind (listItems_at g4 g3 <| wpAny_bind (listItems_at new0 rfl ?_))
  rw [if_neg (by simp)]
  refine wpAny_bind (listUpdate_at new0 rfl (wpAny_pure ?_) (Nat.zero_le _) (by show (#[] ++ us.toArray).size ≤ sizeLine + 1; simp only [List.size_toArray, Array.size_append, List.length_nil]; omega))
  show wpAny (model prog w) A (do let ob ← load s.heap.objs.size; match ob.data with
      | .seq ys _ => pure ys.toList
      | _ => unsupported "internal:collect") R E { s with heap := (s.heap.push (seqObj "list" #[] 0)).update s.heap.objs.size (Obj.mapSeq (· ++ us.toArray)) }
  refine wpAny_bind (wpAny_load (get?_update_seq new0 _) ?_)
  show wpAny _ _ (pure ((#[] : Array Value) ++ us.toArray).toList) R E _
  have z : ((#[] : Array Value) ++ us.toArray).toList = us := by simp
  rw [z]; exact wpAny_pure k
theorem srtT {t : Addr} {us : List Value} {ltv : Value → Value → Bool} {R : Value → Shared → Prop} (O : Swo ltv) (ht : s.heap.IsTuple t us.toArray) (hz : us.length ≤ sizeLine)
    (hS : 2 ≤ us.length → ∀ (g : Heap) (a : Addr), g.get? a = some (seqObj "list" us.toArray 0) → (∀ b o, s.heap.get? b = some o → b ≠ a ∧ g.get? b = some o) → SortableO prog w A.in1.in1 { s with heap := g } a us ltv)
    (k : ∀ out : List Value, Srtd ltv out → Stb ltv out us → R (.ref (s.heap.objs.size + 1)) { s with heap := sortedAll s.heap us out.toArray }) : wpAny (model prog w) A (call (.builtin "sorted") [.ref t]) R E s := by
  refine Calls.call_function_entry kind_sorted plain_sorted entry_sorted (args_sorted1 _) ?_
  unfold Builtin.«sorted»; refine wpAny_bind (m := checkCount "sorted" 1 1 _) (wpAny_pure (wpAny_bind (colT ht hz (wpAny_bind (wpAny_newList ?_ hz)))))
  have n1 : ((s.heap.push (seqObj "list" #[] 0)).update s.heap.objs.size (Obj.mapSeq (· ++ us.toArray))).objs.size = s.heap.objs.size + 1 := (Heap.size_update ..).trans (size_push' ..)
  have n2 : (((s.heap.push (seqObj "list" #[] 0)).update s.heap.objs.size (Obj.mapSeq (· ++ us.toArray))).push (seqObj "list" us.toArray 0)).get? (s.heap.objs.size + 1) = some (seqObj "list" us.toArray 0) := n1 ▸ Heap.get?_push_size _ rfl
  have n3 : ∀ b o, s.heap.get? b = some o → b ≠ s.heap.objs.size + 1 ∧ (((s.heap.push (seqObj "list" #[] 0)).update s.heap.objs.size (Obj.mapSeq (· ++ us.toArray))).push (seqObj "list" us.toArray 0)).get? b = some o := fun b o q =>
    have l := Heap.lt_size q
    ⟨Nat.ne_of_lt (Nat.lt_succ_of_lt l), Heap.get?_push_of_some _ (by rw [Heap.get?_update_ne _ _ _ _ (Nat.ne_of_lt l)]; exact Heap.get?_push_of_some _ q)⟩
  show wpAny _ _ _ _ _ { s with heap := ((s.heap.push (seqObj "list" #[] 0)).update s.heap.objs.size (Obj.mapSeq (· ++ us.toArray))).push (seqObj "list" us.toArray 0) }
  rw [n1]
  exact wpAny_bind (wpAny_holding (wpAny_call_entry slot_list_sort ⟨_, n2, rfl⟩ entry_list_sort (list_sort_ord O n2 hz (fun h2 => hS h2 _ _ n2 n3) fun out p q => ⟨_, rfl, wpAny_pure ⟨_, rfl, k out p q⟩⟩) (args_list_sort _)))
end
end SrtO
namespace Dn
open PySem PySem.Spec PyProof.Rows L2
section
variable {K : PySem.W.Frag} {X : Cx} {C : Fr} {f fa fb fc : De} {fr : DeL} {H : Hp} {σ : L2.St} {v : V} {x : PyData} {a b c e : Expr} {pos : Pos}
/-- a test: (a if c else b) -/
theorem dt_ifE (hc : PT X c (TB X.K C fc)) (ha : PT X a (TB X.K C fa)) (hb : PT X b (TB X.K C fb)) : PT X (.IfExp c a b pos) (TB X.K C (dIf fc fa fb)) := ⟨fun pins s σ H Q I h => by
  obtain ⟨env, fs, E, h⟩ := h
  show wpAny (model X.prog X.w) X.A (do if ← isTrue c X.env (eval c X.env) then isTrue a X.env (eval a X.env) else isTrue b X.env (eval b X.env)) _ _ s
  have h0 : TB X.K C fc σ H (fun k H1 => if k = true then TB X.K C fa σ H1 Q else TB X.K C fb σ H1 Q) := tb_on E ((After.bool h fun rv e z => bool_bad _ _ rv z).imp fun rv e H1 fs1 _ p s E1 q => by
    match rv, q with
    | .d (.bool true), q => exact fun _ _ => ⟨e, fs1, E1, q⟩
    | .d (.bool false), q => exact fun _ _ => ⟨e, fs1, E1, q⟩)
  refine wpAny_bind (thn (hc.run pins s σ H _ I h0) fun k s1 ⟨H1, I1, q⟩ => ?_)
  cases k with
  | true => exact ha.run pins s1 σ H1 Q I1 q
  | false => exact hb.run pins s1 σ H1 Q I1 q⟩
/-- t < u of tuples of ints -/
def gLtT : PyData → PyData → Option Rv
  | .tuple xs, .tuple ys => (match ints? xs, ints? ys with
    | some ns, some ms => some (.d (.bool (HT.lexLt ns ms)))
    | _, _ => none)
  | _, _ => none
theorem od_ltT : OpD K (rLtT K) gLtT := by
  intro H x y vx vy rv Q hx hy h k
  cases x with
  | tuple xs =>
    cases y with
    | tuple ys =>
      dsimp only [gLtT] at h
      cases h1 : ints? xs with
      | none => rw [h1] at h; cases h
      | some ns =>
        cases h2 : ints? ys with
        | none => rw [h1, h2] at h; cases h
        | some ms =>
          rw [h1, h2] at h; cases h
          obtain ⟨a, vs, rfl, s1, f1⟩ := hx
          obtain ⟨b, us, rfl, s2, f2⟩ := hy
          rw [ints_v h1 f1] at s1
          rw [ints_v h2 f2] at s2
          exact ⟨a, b, ns, ms, rfl, rfl, s1, s2, k _ _ (Ne.same rfl)⟩
    | _ => cases h
  | _ => cases h
def gLtA := orE gLtI gLtT
theorem op_ltA (hu : X.A.units < cLine) : OpR X (compareOp .Lt) (fun x y H Q => rI0 (fun i j => .bl (decide (i < j))) x y H Q ∨ rLtT X.K x y H Q) := op_lt.or (op_ltT hu)
theorem od_ltA : OpD K (fun x y H Q => rI0 (fun i j => .bl (decide (i < j))) x y H Q ∨ rLtT K x y H Q) gLtA := OpD.or od_lt od_ltT
end
/-! ### sorted -/
def insB {α : Type} (le : α → α → Bool) (a : α) : List α → List α
  | [] => [a]
  | b :: l => if le a b then a :: b :: l else b :: insB le a l
def sortB {α : Type} (le : α → α → Bool) : List α → List α
  | [] => []
  | a :: l => insB le a (sortB le l)
section
variable {α : Type} {le : α → α → Bool}
theorem insB_perm (a : α) : ∀ l : List α, (insB le a l).Perm (a :: l)
  | [] => .refl _
  | b :: l => by
    unfold insB; split
    · exact .refl _
    · exact ((insB_perm a l).cons b).trans (.swap a b l)
theorem sortB_perm : ∀ l : List α, (sortB le l).Perm l
  | [] => .refl _
  | a :: l => (insB_perm a _).trans ((sortB_perm l).cons a)
theorem insB_ord (tot : ∀ x y, le x y = true ∨ le y x = true) (tr : ∀ x y z, le x y = true → le y z = true → le x z = true) (a : α) : ∀ l : List α, l.Pairwise (fun x y => le x y = true) → (insB le a l).Pairwise (fun x y => le x y = true)
  | [], _ => by simp [insB]
  | b :: l, h => by
    obtain ⟨h1, h2⟩ := List.pairwise_cons.mp h
    unfold insB; split
    · rename_i q
      exact List.pairwise_cons.mpr ⟨fun c hc => (List.mem_cons.mp hc).elim (fun z => by rw [z]; exact q) fun z => tr _ _ _ q (h1 c z), h⟩
    · rename_i q
      refine List.pairwise_cons.mpr ⟨fun c hc => ?_, insB_ord tot tr a l h2⟩
      rcases List.mem_cons.mp ((insB_perm a l).mem_iff.mp hc) with z | z
      · rw [z]; exact (tot a b).resolve_left q
      · exact h1 c z
theorem sortB_ord (tot : ∀ x y, le x y = true ∨ le y x = true) (tr : ∀ x y z, le x y = true → le y z = true → le x z = true) : ∀ l : List α, (sortB le l).Pairwise (fun x y => le x y = true)
  | [] => .nil
  | a :: l => insB_ord tot tr a _ (sortB_ord tot tr l)
/-- a list that is sorted and has the same items is the sorted one -/
theorem ord_uniq (anti : ∀ x y, le x y = true → le y x = true → x = y) : ∀ {l m : List α}, l.Perm m → l.Pairwise (fun x y => le x y = true) → m.Pairwise (fun x y => le x y = true) → l = m
  | [], m, p, _, _ => (List.Perm.nil_eq p)
  | x :: l, [], p, _, _ => by have := p.length_eq; cases this
  | x :: l, y :: m, p, h, q => by
    obtain ⟨h1, h2⟩ := List.pairwise_cons.mp h
    obtain ⟨q1, q2⟩ := List.pairwise_cons.mp q
    have e : x = y := by
      rcases List.mem_cons.mp (p.mem_iff.mp List.mem_cons_self) with z | z
      · exact z
      · rcases List.mem_cons.mp (p.mem_iff.mpr List.mem_cons_self) with z' | z'
        · exact z'.symm
        · exact anti _ _ (h1 _ z') (q1 _ z)
    subst e
    rw [ord_uniq anti (List.Perm.cons_inv p) h2 q2]
end
def leI (i j : Int) : Bool := decide (i ≤ j)
def leP (p q : Int × Int) : Bool := !SrtO.lexB q p
theorem leP_iff {p q : Int × Int} : leP p q = true ↔ p.1 < q.1 ∨ (p.1 = q.1 ∧ p.2 ≤ q.2) := by
  unfold leP
  rw [Bool.not_eq_true', SrtO.lexB_no]; omega
theorem sortI_eq {ns ms : List Int} (p : ms.Perm ns) (h : ms.Pairwise (· ≤ ·)) : ms = sortB leI ns :=
  ord_uniq (le := leI) (fun x y a b => by have := of_decide_eq_true a; have := of_decide_eq_true b; omega) (p.trans (sortB_perm ns).symm) (h.imp fun h => decide_eq_true h)
    (sortB_ord (fun x y => by unfold leI; rw [decide_eq_true_eq, decide_eq_true_eq]; omega) (fun x y z a b => by have := of_decide_eq_true a; have := of_decide_eq_true b; exact decide_eq_true (by omega)) ns)
theorem sortP_eq {ns ms : List (Int × Int)} (p : ms.Perm ns) (h : ms.Pairwise fun x y => SrtO.lexB y x = false) : ms = sortB leP ns :=
  ord_uniq (le := leP) (fun x y a b => by
      have := leP_iff.mp a; have := leP_iff.mp b
      exact Prod.ext (by omega) (by omega)) (p.trans (sortB_perm ns).symm) (h.imp fun h => by unfold leP; rw [h]; rfl)
    (sortB_ord (fun x y => by rw [leP_iff, leP_iff]; omega) (fun x y z a b => by
      have := leP_iff.mp a; have := leP_iff.mp b
      exact leP_iff.mpr (by omega)) ns)
end Dn

set_option Elab.async false
set_option linter.all false
set_option maxRecDepth 100000
set_option maxHeartbeats 4000000
namespace Dn
open PySem PySem.Spec PyProof.Rows L2
def PrR (K : PySem.W.Frag) (H : Hp) (v : V) (p : Int × Int) : Prop := ∃ t, v = .ref t ∧ SqT K H t [.int p.1, .int p.2]
def PrsR (K : PySem.W.Frag) (H : Hp) : List V → List (Int × Int) → Prop
  | [], ps => ps = []
  | v :: vs, ps => ∃ p r, ps = p :: r ∧ PrR K H v p ∧ PrsR K H vs r
open Classical in
noncomputable def kV (K : PySem.W.Frag) (H : Hp) (v : V) : Int × Int := if h : ∃ p, PrR K H v p then h.choose else (0, 0)
section
variable {K : PySem.W.Frag} {X : Cx} {C : Fr} {f fa fb fc : De} {fr : DeL} {H : Hp} {σ : L2.St} {v : V} {x : PyData} {pins : List (Addr × Obj)} {s : Shared}
theorem kV_eq (I : Inv X pins σ H s) {p : Int × Int} (h : PrR X.K H v p) : kV X.K H v = p := by
  unfold kV
  have e : ∃ p, PrR X.K H v p := ⟨p, h⟩
  rw [dif_pos e]
  obtain ⟨t, rfl, q⟩ := h
  obtain ⟨t', e1, q'⟩ := e.choose_spec
  cases e1
  have := I.tuple_inj q' q
  simp only [List.cons.injEq, V.int.injEq, and_true] at this
  exact Prod.ext this.1 this.2
theorem PrsR.map (I : Inv X pins σ H s) : ∀ {vs : List V} {ps : List (Int × Int)}, PrsR X.K H vs ps → vs.map (kV X.K H) = ps
  | [], _, h => by rw [show _ = [] from h]; rfl
  | v :: vs, _, ⟨p, r, e, h, t⟩ => by rw [e, List.map_cons, kV_eq I h, PrsR.map I t]
theorem PrsR.of (I : Inv X pins σ H s) : ∀ {vs : List V}, (∀ v ∈ vs, ∃ p, PrR X.K H v p) → PrsR X.K H vs (vs.map (kV X.K H))
  | [], _ => rfl
  | v :: vs, h => by
    obtain ⟨p, hp⟩ := h v List.mem_cons_self
    exact ⟨_, _, rfl, by rw [kV_eq I hp]; exact hp, PrsR.of I fun u hu => h u (List.mem_cons_of_mem _ hu)⟩
theorem PrsR.all : ∀ {vs : List V} {ps : List (Int × Int)}, PrsR K H vs ps → ∀ v ∈ vs, ∃ p, PrR K H v p
  | v :: vs, _, ⟨p, r, e, h, t⟩, u, hu => by
    rcases List.mem_cons.mp hu with z | z
    · rw [z]; exact ⟨p, h⟩
    · exact PrsR.all t u z
def pairs? : List PyData → Option (List (Int × Int))
  | [] => some []
  | .tuple [.int i, .int j] :: r => (pairs? r).map ((i, j) :: ·)
  | _ => none
def ofPair (p : Int × Int) : PyData := .tuple [.int p.1, .int p.2]
theorem pairs_v : ∀ {ds : List PyData} {vs : List V} {ps : List (Int × Int)}, pairs? ds = some ps → FpL K H ds vs → PrsR K H vs ps
  | [], _, _, h, f => by cases h; rw [show _ = ([] : List V) from f]; rfl
  | d :: r, _, ps, h, ⟨v, w, e, f, t⟩ => by
    subst e
    unfold pairs? at h
    split at h
    · rename_i e; cases e
    · rename_i i j r' e
      cases e
      cases q : pairs? r with
      | none => rw [q] at h; cases h
      | some qs =>
        rw [q] at h; cases h
        obtain ⟨a, us, rfl, s, v1, w1, rfl, g1, v2, w2, rfl, g2, g3⟩ := f
        have g3 : w2 = [] := g3
        subst g3
        rw [show v1 = .int i from g1, show v2 = .int j from g2] at s
        exact ⟨(i, j), _, rfl, ⟨a, rfl, s⟩, pairs_v q t⟩
    · cases h
theorem v_pairs : ∀ {vs : List V} {ps : List (Int × Int)}, PrsR K H vs ps → FpL K H (ps.map ofPair) vs
  | [], _, h => by rw [show _ = [] from h]; rfl
  | v :: vs, _, ⟨p, r, e, ⟨t, e2, h⟩, q⟩ => by
    subst e
    exact ⟨v, vs, rfl, ⟨t, _, e2, h, .int p.1, _, rfl, rfl, .int p.2, _, rfl, rfl, rfl⟩, v_pairs q⟩
/-- sorted(xs): ints, or pairs of ints, in a list or a tuple -/
def rSrt (K : PySem.W.Frag) : List V → Hp → VK → Prop := fun vs H Q => ∃ (a : Addr) (xs : List V), vs = [V.ref a] ∧ (SqL K H a xs ∨ SqT K H a xs) ∧
  ((∃ ns : List Int, xs = ns.map V.int ∧ ∀ p, H p = none → Q (.ref p) (upd H p (.lst ((sortB leI ns).map V.int)))) ∨
   (∃ ps, PrsR K H xs ps ∧ ∀ ys p, PrsR K H ys (sortB leP ps) → H p = none → Q (.ref p) (upd H p (.lst ys))))
theorem cr_srt : CallR X (.builtin "sorted") (rSrt X.K) := by
  intro pins s σ H vs us Q I r h
  obtain ⟨a, xs, rfl, hs, h⟩ := h
  rw [Vals.ref1 r]
  obtain ⟨its, rv, hz, hl⟩ : ∃ its : List Value, Vals xs its ∧ xs.length ≤ sizeLine ∧ (s.heap.IsList a its.toArray ∨ s.heap.IsTuple a its.toArray) := by
    rcases hs with hs | hs
    · obtain ⟨its, q1, q2, q3⟩ := I.list hs; exact ⟨its, q1, q3, .inl q2.isList⟩
    · obtain ⟨its, q1, q2, q3⟩ := I.tuple hs; exact ⟨its, q1, q3, .inr q2⟩
  have run : ∀ {ltv : Value → Value → Bool}, SrtO.Swo ltv → (∀ (g : Heap) (d : Addr), g.get? d = some (seqObj "list" its.toArray 0) → (∀ b o, s.heap.get? b = some o → b ≠ d ∧ g.get? b = some o) → 2 ≤ its.length → SrtO.SortableO X.prog X.w X.A.in1.in1 { s with heap := g } d its ltv) →
      (∀ out : List Value, SrtO.Srtd ltv out → SrtO.Stb ltv out its → ∃ ys, Vals ys out ∧ ∀ p, H p = none → Q (.ref p) (upd H p (.lst ys))) → wpAny (model X.prog X.w) X.A (call (.builtin "sorted") [.ref a]) (EP X pins σ Q) X.xe s := fun {ltv} O hS fin => by
    have hz' : its.length ≤ sizeLine := by rw [← rv.length]; exact hz
    have fin' : ∀ out : List Value, SrtO.Srtd ltv out → SrtO.Stb ltv out its → EP X pins σ Q (.ref (s.heap.objs.size + 1)) { s with heap := PyProof.Rows.sortedAll s.heap its out.toArray } := fun out h1 h2 => by
      obtain ⟨ys, q1, q2⟩ := fin out h1 h2
      obtain ⟨ep, he'⟩ := PyProof.Rows.sortedAll_at s.heap its out.toArray
      have hlen : ys.length ≤ sizeLine := by rw [q1.length, h2.perm.length_eq]; exact hz'
      exact ⟨.ref _, upd H (s.heap.objs.size + 1) (.lst ys), I.laid (t' := s.toks) (fun _ _ => PyProof.Rows.sortedAll_old) (Nat.le_succ _) ⟨hlen, out, ep, q1, he'⟩, rfl, q2 _ (I.hok.fresh (Nat.le_succ _))⟩
    rcases hl with hl | hl
    · exact SrtO.sorted_ord O hl hz' (fun h2 g d g1 g2 => hS g d g1 g2 h2) fin'
    · exact SrtO.srtT O hl hz' (fun h2 g d g1 g2 => hS g d g1 g2 h2) fin'
  rcases h with ⟨ns, rfl, q⟩ | ⟨ps, hp, q⟩
  · have hi := rv.ints
    refine run SrtO.swo_int (fun g d _ _ h2 => SrtO.ints_sortable hi h2) fun out h1 h2 => ?_
    obtain ⟨k1, k2, k3⟩ := SrtO.ints_out hi h1 h2
    refine ⟨_, vals_of_ints k1, ?_⟩
    rw [sortI_eq k2 k3]
    exact q
  · have hall := hp.all
    obtain ⟨e1, e2⟩ := refs_back rv fun x m => by
      obtain ⟨p, t, e, _⟩ := hall x m
      exact ⟨t, e⟩
    have isP : ∀ u ∈ its, Srt.IsPair s.heap u (kV X.K H (backV u)).1 (kV X.K H (backV u)).2 := fun u hu => by
      obtain ⟨t, rfl⟩ := e2 u hu
      have hm : V.ref t ∈ xs := by rw [e1]; exact List.mem_map.mpr ⟨_, hu, rfl⟩
      obtain ⟨p, hpp⟩ := hall _ hm
      rw [show kV X.K H (backV (Value.ref t)) = p from kV_eq I hpp]
      obtain ⟨t', e, ht⟩ := hpp
      cases e
      obtain ⟨its2, r2, ⟨o, ho, hc, n, hd⟩, _⟩ := I.tuple ht
      obtain ⟨u1, u2, rfl, ri, rj⟩ := vals2 r2
      obtain ⟨t1, rfl⟩ := ri
      obtain ⟨t2, rfl⟩ := rj
      exact ⟨t, o, t1, t2, n, rfl, ho, hc, hd⟩
    refine run (SrtO.swo_lex fun u => kV X.K H (backV u)) (fun g d gd kk h2 => SrtO.pairs_sortableO (s := { s with heap := g }) (by omega) (fun u hm => (isP u hm).keeps fun b o e _ => (kk b o e).2) fun o e => ?_) fun out h1 h2 => ?_
    · have e' : some o = some (seqObj "list" its.toArray 0) := e.symm.trans gd
      cases e'
      intro c
      exact absurd (Value.type.inj c) (by decide)
    · have h3 : ∀ u ∈ out, ∃ a, u = Value.ref a := fun u hu => e2 u (h2.perm.mem_iff.mp hu)
      refine ⟨out.map backV, vals_back h3, fun p hpn => q _ p ?_ hpn⟩
      have hperm : (out.map backV).Perm xs := by rw [e1]; exact h2.perm.map _
      have a1 := PrsR.of I (vs := out.map backV) fun v hv => hall v (hperm.mem_iff.mp hv)
      have a2 : (out.map backV).map (kV X.K H) = sortB leP ps := by
        refine sortP_eq ?_ ?_
        · rw [← hp.map I]; exact hperm.map _
        · rw [List.map_map]
          exact List.pairwise_map.mpr h1
      rw [a2] at a1
      exact a1
def gSorted : List PyData → Option Rv
  | [.list ds] => (match ints? ds with
    | some ns => some (.ow (.lst ((sortB leI ns).map .int)))
    | none => (pairs? ds).map fun ps => .ow (.lst ((sortB leP ps).map ofPair)))
  | [.tuple ds] => (match ints? ds with
    | some ns => some (.ow (.lst ((sortB leI ns).map .int)))
    | none => (pairs? ds).map fun ps => .ow (.lst ((sortB leP ps).map ofPair)))
  | _ => none
theorem cd_sorted : CallD K (rSrt K) gSorted := by
  intro H xs vs rv Q ht h k
  have main : ∀ {ds : List PyData} {a : Addr} {us : List V}, (SqL K H a us ∨ SqT K H a us) → FpL K H ds us → (match ints? ds with
    | some ns => some (Rv.ow (.lst ((sortB leI ns).map .int)))
    | none => (pairs? ds).map fun ps => Rv.ow (.lst ((sortB leP ps).map ofPair))) = some rv → rSrt K [.ref a] H Q := fun {ds a us} hs f h => by
    refine ⟨a, us, rfl, hs, ?_⟩
    cases h1 : ints? ds with
    | some ns =>
      rw [h1] at h; cases h
      exact .inl ⟨ns, ints_v h1 f, fun p hp => k _ _ (ne_lst hp FpL.ints)⟩
    | none =>
      rw [h1] at h
      cases h2 : pairs? ds with
      | none => rw [h2] at h; cases h
      | some ps =>
        rw [h2] at h; cases h
        exact .inr ⟨ps, pairs_v h2 f, fun ys p hy hp => k _ _ (ne_lst hp (v_pairs hy))⟩
  match xs, h with
  | [.list ds], h =>
    obtain ⟨v, rfl, a, us, rfl, s, f⟩ := ht.one
    exact main (.inl (.inl s)) f h
  | [.tuple ds], h =>
    obtain ⟨v, rfl, a, us, rfl, s, f⟩ := ht.one
    exact main (.inr s) f h
end
end Dn

set_option Elab.async false
set_option linter.all false
set_option maxRecDepth 100000
set_option maxHeartbeats 4000000
/-! ### list(zip(a, b)) -/
namespace Dz
open PySem PySem.Spec PyProof.Rows L2 RZ
section
variable {prog : Program} {w : World} {A : Around} {E : Value → Shared → Prop} {s : Shared}
/-- two tuples, while the pair that was handed out last is still there -/
theorem nextT {z TI TO T i1 i2 l1 l2 : Addr} {f : Bool} {oT : Obj} {m n : Nat} {us ws : Array Value} {u v : Value} {R : Value → Shared → Prop} (D : ZipApart z TI TO i1 i2 l1 l2)
    (hz : IsZipHeld s.heap z TI TO T f) (hT : s.heap.get? T = some oT) (hTI : IsPair s.heap TI (.ref i1) (.ref i2)) (p1 : s.heap.IsTupleIter i1 l1 m) (p2 : s.heap.IsTupleIter i2 l2 n) (q1 : s.heap.IsTuple l1 us) (q2 : s.heap.IsTuple l2 ws) (hu : us[m]? = some u) (hv : ws[n]? = some v)
    (k : ∀ g, IsZipHeld g z TI TO T true → g.IsTupleIter i1 l1 (m + 1) → g.IsTupleIter i2 l2 (n + 1) → IsPair g s.heap.objs.size u v → g.objs.size = s.heap.objs.size + 1 → (∀ c o, c ≠ z → c ≠ i1 → c ≠ i2 → s.heap.get? c = some o → g.get? c = some o) → R (.ref s.heap.objs.size) { s with heap := g }) :
    wpAny (model prog w) A (Builtin.«zip.__next__» ⟨[.ref z], []⟩) (fun fin s' => ∃ v, fin = .done (.ret v) ∧ R v s') E s := by
  show wpAny _ _ (field (.ref z) 2 >>= _) _ _ _
  refine wpAny_bind (wpAny_field hz rfl (x := .bool false) rfl (?_ : wpAny _ _ (field (.ref z) 3 >>= _) _ _ _))
  refine wpAny_bind (wpAny_field hz rfl (x := .ref TI) rfl (wpAny_bind (wpAny_seqItems hTI rfl (?_ : wpAny _ _ (Builtin.SmallTypes.ownedTupleIsFree (.ref z) >>= _) _ _ _))))
  refine wpAny_bind (wpAny_tupleHeld_zip hz hT fun g1 z1 b1 => ?_)
  simp only [Bool.false_eq_true, if_false]; refine wpAny_bind ?_
  rw [← Array.forIn_toList]; simp only [List.forIn_cons, List.forIn_nil]
  refine wpAny_bind (wpAny_bind (wpAny_holding (?_ : wpAny _ _ (Builtin.SmallTypes.nextOf (.ref i1) >>= _) _ _ _)))
  refine wpAny_bind (nextOf_tuple_item (s := { s with heap := g1 }) (p1.extBut b1.extBut D.i1z) (q1.extBut b1.extBut D.l1z) hu fun g2 z2 b2 => wpAny_pure (wpAny_pure ?_))
  refine wpAny_bind (wpAny_bind (wpAny_holding (?_ : wpAny _ _ (Builtin.SmallTypes.nextOf (.ref i2) >>= _) _ _ _)))
  refine wpAny_bind (nextOf_tuple_item (s := { s with heap := g2 }) ((p2.extBut b1.extBut D.i2z).extBut b2.extBut D.i12.symm) ((q2.extBut b1.extBut D.l2z).extBut b2.extBut D.l2i1) hv fun g3 z3 b3 => wpAny_pure (wpAny_pure (wpAny_pure (?_ : wpAny _ _ (newTuple [u, v] >>= _) _ _ _))))
  refine wpAny_bind (wpAny_newTuple (wpAny_pure ⟨_, rfl, (?_ : R (.ref g3.objs.size) _)⟩))
  have e3 : g3.objs.size = s.heap.objs.size := b3.1.trans (b2.1.trans b1.1)
  have zh : IsZipHeld g3 z TI TO T true := b3.extBut _ _ D.i2z.symm (b2.extBut _ _ D.i1z.symm z1)
  have kp : ∀ c o, c ≠ z → c ≠ i1 → c ≠ i2 → s.heap.get? c = some o → g3.get? c = some o := fun c o n1 n2 n3 e => b3.extBut _ _ n3 (b2.extBut _ _ n2 (b1.extBut _ _ n1 e))
  have z2' : g3.IsTupleIter i1 l1 (m + 1) := z2.extBut b3.extBut D.i12
  have new : IsPair (g3.push { cls := .type "tuple", data := .seq #[u, v] }) g3.objs.size u v := Heap.get?_push_size _ rfl
  have sz : (g3.push { cls := .type "tuple", data := .seq #[u, v] }).objs.size = g3.objs.size + 1 := Heap.size_push ..
  rw [e3] at new sz ⊢
  exact k _ (Heap.get?_push_of_some _ zh) (z2'.at fun o e => Heap.get?_push_of_some _ e) (z3.at fun o e => Heap.get?_push_of_some _ e) new sz fun c o n1 n2 n3 e => Heap.get?_push_of_some _ (kp c o n1 n2 n3 e)
theorem endT {z TI TO T i1 i2 l1 l2 : Addr} {f : Bool} {oT : Obj} {m n : Nat} {us ws : Array Value} {R : Fin → Shared → Prop} (hh : A.handled = none) (D : ZipApart z TI TO i1 i2 l1 l2)
    (hz : IsZipHeld s.heap z TI TO T f) (hT : s.heap.get? T = some oT) (hTI : IsPair s.heap TI (.ref i1) (.ref i2)) (p1 : s.heap.IsTupleIter i1 l1 m) (p2 : s.heap.IsTupleIter i2 l2 n) (q1 : s.heap.IsTuple l1 us) (q2 : s.heap.IsTuple l2 ws) (stop : us[m]? = none ∨ ws[n]? = none)
    (k : ∀ g e, (∀ c o, c ≠ z → c ≠ i1 → c ≠ i2 → s.heap.get? c = some o → g.get? c = some o) → (∃ o, g.get? e = some o ∧ o.cls = .type "StopIteration") → E (.ref e) { s with heap := g }) :
    wpAny (model prog w) A (Builtin.«zip.__next__» ⟨[.ref z], []⟩) R E s := by
  show wpAny _ _ (field (.ref z) 2 >>= _) _ _ _
  refine wpAny_bind (wpAny_field hz rfl (x := .bool false) rfl (?_ : wpAny _ _ (field (.ref z) 3 >>= _) _ _ _))
  refine wpAny_bind (wpAny_field hz rfl (x := .ref TI) rfl (wpAny_bind (wpAny_seqItems hTI rfl (?_ : wpAny _ _ (Builtin.SmallTypes.ownedTupleIsFree (.ref z) >>= _) _ _ _))))
  refine wpAny_bind (wpAny_tupleHeld_zip hz hT fun g1 z1 b1 => ?_)
  simp only [Bool.false_eq_true, if_false]; refine wpAny_bind ?_
  rw [← Array.forIn_toList]; simp only [List.forIn_cons, List.forIn_nil]
  refine wpAny_bind (wpAny_bind (wpAny_holding (?_ : wpAny _ _ (Builtin.SmallTypes.nextOf (.ref i1) >>= _) _ _ _)))
  cases hu : us[m]? with
  | none => exact wpAny_bind (nextOf_tuple_end (s := { s with heap := g1 }) hh (p1.extBut b1.extBut D.i1z) (q1.extBut b1.extBut D.l1z) hu fun g2 e b2 he => k g2 e (fun c o n1 n2 _ x => b2 _ _ n2 (b1.extBut _ _ n1 x)) he)
  | some u =>
    have hv : ws[n]? = none := stop.resolve_left (by rw [hu]; exact Option.some_ne_none u)
    refine wpAny_bind (nextOf_tuple_item (s := { s with heap := g1 }) (p1.extBut b1.extBut D.i1z) (q1.extBut b1.extBut D.l1z) hu fun g2 z2 b2 => wpAny_pure (wpAny_pure ?_))
    refine wpAny_bind (wpAny_bind (wpAny_holding (?_ : wpAny _ _ (Builtin.SmallTypes.nextOf (.ref i2) >>= _) _ _ _)))
    exact wpAny_bind (nextOf_tuple_end (s := { s with heap := g2 }) hh ((p2.extBut b1.extBut D.i2z).extBut b2.extBut D.i12.symm) ((q2.extBut b1.extBut D.l2z).extBut b2.extBut D.l2i1) hv fun g3 e b3 he => k g3 e (fun c o n1 n2 n3 x => b3 _ _ n3 (b2.extBut _ _ n2 (b1.extBut _ _ n1 x))) he)
/-- where a zip stands behind i turns; S: a place that is apart from it -/
def ZS (t : Bool) (z TI TO i1 i2 l1 l2 S : Addr) (us ws : Array Value) (i : Nat) (h : Heap) : Prop :=
  ((IsZip h z TI TO .none ∧ ∃ a b, IsPair h TO a b) ∨ ∃ T f oT, ((T ≠ S ∧ T ≠ z ∧ T ≠ i1 ∧ T ≠ i2) ∧ ∃ o, h.get? TO = some o) ∧ IsZipHeld h z TI TO T f ∧ h.get? T = some oT) ∧ IsPair h TI (.ref i1) (.ref i2) ∧ match t with
    | true => h.IsTupleIter i1 l1 i ∧ h.IsTupleIter i2 l2 i ∧ h.IsTuple l1 us ∧ h.IsTuple l2 ws
    | false => h.IsListIter i1 l1 i ∧ h.IsListIter i2 l2 i ∧ h.IsList l1 us ∧ h.IsList l2 ws
theorem ZS.keep {t : Bool} {z TI TO i1 i2 l1 l2 S : Addr} {us ws : Array Value} {i : Nat} {h g : Heap} (n1 : z ≠ S) (n2 : TI ≠ S) (n3 : TO ≠ S) (n4 : i1 ≠ S) (n5 : i2 ≠ S) (n6 : l1 ≠ S) (n7 : l2 ≠ S) (st : ZS t z TI TO i1 i2 l1 l2 S us ws i h)
    (k : ∀ b o, b ≠ S → h.get? b = some o → g.get? b = some o) : ZS t z TI TO i1 i2 l1 l2 S us ws i g := by
  obtain ⟨a1, a2, a3⟩ := st
  refine ⟨?_, k _ _ n2 a2, ?_⟩
  · rcases a1 with ⟨a1, a, b, a4⟩ | ⟨T, f, oT, a1, a4, a5⟩
    · exact .inl ⟨k _ _ n1 a1, a, b, k _ _ n3 a4⟩
    · exact .inr ⟨T, f, oT, ⟨a1.1, a1.2.imp fun o q => k _ _ n3 q⟩, k _ _ n1 a4, k _ _ a1.1.1 a5⟩
  · cases t with
    | true =>
      obtain ⟨c1, c2, ⟨o3, d1, d2⟩, ⟨o4, d3, d4⟩⟩ := a3
      exact ⟨c1.at fun o e => k _ o n4 e, c2.at fun o e => k _ o n5 e, ⟨o3, k _ _ n6 d1, d2⟩, ⟨o4, k _ _ n7 d3, d4⟩⟩
    | false =>
      obtain ⟨c1, c2, ⟨o3, d1, d2⟩, ⟨o4, d3, d4⟩⟩ := a3
      exact ⟨c1.at fun o e => k _ o n4 e, c2.at fun o e => k _ o n5 e, ⟨o3, k _ _ n6 d1, d2⟩, ⟨o4, k _ _ n7 d3, d4⟩⟩
theorem ZS.item {t : Bool} {z TI TO i1 i2 l1 l2 S : Addr} {us ws : Array Value} {i : Nat} {u v : Value} {R : Option Value → Shared → Prop} (D : ZipApart z TI TO i1 i2 l1 l2) (hS : S < s.heap.objs.size) (st : ZS t z TI TO i1 i2 l1 l2 S us ws i s.heap) (hu : us[i]? = some u) (hv : ws[i]? = some v)
    (k : ∀ g, ZS t z TI TO i1 i2 l1 l2 S us ws (i + 1) g → IsPair g s.heap.objs.size u v → (∀ c o, c ≠ z → c ≠ TO → c ≠ i1 → c ≠ i2 → s.heap.get? c = some o → g.get? c = some o) → R (some (.ref s.heap.objs.size)) { s with heap := g }) : wpAny (model prog w) A (pyNext (.ref z)) R E s := by
  obtain ⟨a1, a2, a3⟩ := st
  have nz : ∀ {c o}, s.heap.get? c = some o → s.heap.objs.size ≠ c := fun e => Nat.ne_of_gt (Heap.lt_size e)
  have nS : IsPair s.heap TI (.ref i1) (.ref i2) → (∃ o, s.heap.get? z = some o) → (∃ o, s.heap.get? i1 = some o) → (∃ o, s.heap.get? i2 = some o) → s.heap.objs.size ≠ S ∧ s.heap.objs.size ≠ z ∧ s.heap.objs.size ≠ i1 ∧ s.heap.objs.size ≠ i2 := fun _ ⟨_, a⟩ ⟨_, b⟩ ⟨_, c⟩ => ⟨Nat.ne_of_gt hS, nz a, nz b, nz c⟩
  have two : ∀ {l : Addr} {items : Array Value} {g : Heap}, (∀ c o, c ≠ z → c ≠ TO → c ≠ i1 → c ≠ i2 → s.heap.get? c = some o → g.get? c = some o) → l ≠ z → l ≠ TO → l ≠ i1 → l ≠ i2 → (s.heap.IsTuple l items → g.IsTuple l items) ∧ (s.heap.IsList l items → g.IsList l items) := fun kk m1 m2 m3 m4 =>
    ⟨fun ⟨o, d1, d2⟩ => ⟨o, kk _ _ m1 m2 m3 m4 d1, d2⟩, fun ⟨o, d1, d2⟩ => ⟨o, kk _ _ m1 m2 m3 m4 d1, d2⟩⟩
  rcases a1 with ⟨a1, a, b, a4⟩ | ⟨T, f, oT, a1, a4, a5⟩
  · cases t with
    | true =>
      obtain ⟨c1, c2, c3, c4⟩ := a3
      exact pyNext_zipT_item D a1 a2 a4 c1 c2 c3 c4 hu hv fun g e1 e2 e3 e4 e5 e6 e7 => k g ⟨.inr ⟨_, false, _, ⟨nS a2 ⟨_, a1⟩ ⟨_, c1.choose_spec.1⟩ ⟨_, c2.choose_spec.1⟩, _, e2⟩, e1, e5⟩, e7 _ _ D.TIz D.TITO D.TIi1 D.TIi2 a2, e3, e4, (two e7 D.l1z D.l1TO D.l1i1 D.l1i2).1 c3, (two e7 D.l2z D.l2TO D.l2i1 D.l2i2).1 c4⟩ e5 e7
    | false =>
      obtain ⟨c1, c2, c3, c4⟩ := a3
      exact wpAny_pyNext_zip_item D a1 a2 a4 c1 c2 c3 c4 hu hv fun g e1 e2 e3 e4 e5 e6 e7 => k g ⟨.inr ⟨_, false, _, ⟨nS a2 ⟨_, a1⟩ ⟨_, c1.choose_spec.1⟩ ⟨_, c2.choose_spec.1⟩, _, e2⟩, e1, e5⟩, e7 _ _ D.TIz D.TITO D.TIi1 D.TIi2 a2, e3, e4, (two e7 D.l1z D.l1TO D.l1i1 D.l1i2).2 c3, (two e7 D.l2z D.l2TO D.l2i1 D.l2i2).2 c4⟩ e5 e7
  · have hT' : ∀ {g : Heap}, (∀ c o, c ≠ z → c ≠ i1 → c ≠ i2 → s.heap.get? c = some o → g.get? c = some o) → IsZipHeld g z TI TO T true → ∃ o, g.get? T = some o := fun {g} e7 e1 => ⟨_, e7 _ _ a1.1.2.1 a1.1.2.2.1 a1.1.2.2.2 a5⟩
    cases t with
    | true =>
      obtain ⟨c1, c2, c3, c4⟩ := a3
      have hTy : s.TypeIs (.ref z) "zip" := ⟨_, a4, rfl⟩
      unfold pyNext
      refine wpAny_bind (wpAny_attempt (wpAny_callSpecial?_slot (name := Str.ofString "__next__") hTy F.slot_zip_next (wpAny_call_entry F.slot_zip_next hTy F.entry_zip_next (nextT D a4 a5 a2 c1 c2 c3 c4 hu hv fun g e1 e3 e4 e5 e6 e7 => wpAny_pure ?_) (F.args_zip_next_1 _))))
      have e8 : ∀ c o, c ≠ z → c ≠ TO → c ≠ i1 → c ≠ i2 → s.heap.get? c = some o → g.get? c = some o := fun c o n1 _ n3 n4 e => e7 c o n1 n3 n4 e
      obtain ⟨o9, h9⟩ := hT' e7 e1
      exact k g ⟨.inr ⟨T, true, o9, ⟨a1.1, a1.2.imp fun o q => e7 _ _ D.TOz D.TOi1 D.TOi2 q⟩, e1, h9⟩, e8 _ _ D.TIz D.TITO D.TIi1 D.TIi2 a2, e3, e4, (two e8 D.l1z D.l1TO D.l1i1 D.l1i2).1 c3, (two e8 D.l2z D.l2TO D.l2i1 D.l2i2).1 c4⟩ e5 e8
    | false =>
      obtain ⟨c1, c2, c3, c4⟩ := a3
      refine wpAny_pyNext_zip_item_held D a4 a5 a2 c1 c2 c3 c4 hu hv fun g e1 e3 e4 e5 e6 e7 => ?_
      have e8 : ∀ c o, c ≠ z → c ≠ TO → c ≠ i1 → c ≠ i2 → s.heap.get? c = some o → g.get? c = some o := fun c o n1 _ n3 n4 e => e7 c o n1 n3 n4 e
      obtain ⟨o9, h9⟩ := hT' e7 e1
      exact k g ⟨.inr ⟨T, true, o9, ⟨a1.1, a1.2.imp fun o q => e7 _ _ D.TOz D.TOi1 D.TOi2 q⟩, e1, h9⟩, e8 _ _ D.TIz D.TITO D.TIi1 D.TIi2 a2, e3, e4, (two e8 D.l1z D.l1TO D.l1i1 D.l1i2).2 c3, (two e8 D.l2z D.l2TO D.l2i1 D.l2i2).2 c4⟩ e5 e8
theorem ZS.done {t : Bool} {z TI TO i1 i2 l1 l2 S : Addr} {us ws : Array Value} {i : Nat} {R : Option Value → Shared → Prop} (hh : A.handled = none) (D : ZipApart z TI TO i1 i2 l1 l2) (st : ZS t z TI TO i1 i2 l1 l2 S us ws i s.heap) (stop : us[i]? = none ∨ ws[i]? = none)
    (k : ∀ g, (∀ c o, c ≠ z → c ≠ TO → c ≠ i1 → c ≠ i2 → s.heap.get? c = some o → g.get? c = some o) → R none { s with heap := g }) : wpAny (model prog w) A (pyNext (.ref z)) R E s := by
  obtain ⟨a1, a2, a3⟩ := st
  rcases a1 with ⟨a1, a, b, a4⟩ | ⟨T, f, oT, a1, a4, a5⟩
  · cases t with
    | true => obtain ⟨c1, c2, c3, c4⟩ := a3; exact pyNext_zipT_end hh D a1 a2 a4 c1 c2 c3 c4 stop k
    | false => obtain ⟨c1, c2, c3, c4⟩ := a3; exact wpAny_pyNext_zip_end hh D a1 a2 a4 c1 c2 c3 c4 stop k
  · cases t with
    | true =>
      obtain ⟨c1, c2, c3, c4⟩ := a3
      have hTy : s.TypeIs (.ref z) "zip" := ⟨_, a4, rfl⟩
      unfold pyNext
      refine wpAny_bind (wpAny_attempt (wpAny_callSpecial?_slot (name := Str.ofString "__next__") hTy F.slot_zip_next (wpAny_call_entry F.slot_zip_next hTy F.entry_zip_next (endT hh D a4 a5 a2 c1 c2 c3 c4 stop fun g e e7 he => ?_) (F.args_zip_next_1 _))))
      obtain ⟨o, ho, hc⟩ := he
      exact wpAny_bind (wpAny_isInstance (T := "StopIteration") (b := true) ⟨o, ho, hc⟩ isSubtype_stop (wpAny_pure (k _ fun c o n1 _ n3 n4 e => e7 c o n1 n3 n4 e)))
    | false =>
      obtain ⟨c1, c2, c3, c4⟩ := a3
      exact wpAny_pyNext_zip_end_held hh D a4 a5 a2 c1 c2 c3 c4 stop fun g e7 => k g fun c o n1 _ n3 n4 e => e7 c o n1 n3 n4 e
theorem ZS.self {t : Bool} {z TI TO i1 i2 l1 l2 S : Addr} {us ws : Array Value} {i : Nat} {R : Value → Shared → Prop} (st : ZS t z TI TO i1 i2 l1 l2 S us ws i s.heap) (k : R (.ref z) s) : wpAny (model prog w) A (pyIter (.ref z)) R E s := by
  obtain ⟨⟨a1, _⟩ | ⟨T, f, oT, _, a1, _⟩, _⟩ := st
  · exact wpAny_pyIter_zip a1 k
  · have hTy : s.TypeIs (.ref z) "zip" := ⟨_, a1, rfl⟩
    refine wpAny_pyIter_slot hTy F.slot_zip_iter (wpAny_call_entry F.slot_zip_iter hTy F.entry_zip_iter (?_ : wpAny _ _ (ret (.ref z)) _ _ s) (F.args_zip_iter_1 _))
    exact wpAny_pure ⟨_, rfl, "zip", _, hTy, F.slot_zip_next.lookup, k⟩
theorem ZS.ty {t : Bool} {z TI TO i1 i2 l1 l2 S : Addr} {us ws : Array Value} {i : Nat} {h : Heap} (st : ZS t z TI TO i1 i2 l1 l2 S us ws i h) : ∃ o, h.get? z = some o ∧ o.cls = .type "zip" := by
  obtain ⟨⟨a1, _⟩ | ⟨T, f, oT, _, a1, _⟩, _⟩ := st
  · exact ⟨_, a1, rfl⟩
  · exact ⟨_, a1, rfl⟩
end
abbrev lob (acc : Array Value) (c : Nat) : Obj := { cls := .type "list", dict := none, data := .seq acc c, slots := #[] }
/-- the pairs that have been handed out -/
def PrL (H : Hp) : List V → List V → List V → Prop
  | [], _, _ => True
  | p :: ps, x :: xs, y :: ys => (∃ T, p = .ref T ∧ H T = some (.tup [x, y])) ∧ PrL H ps xs ys
  | _, _, _ => False
theorem PrL.ex {H H' : Hp} (e : ∀ a o, H a = some o → H' a = some o) : ∀ {ps xs ys : List V}, PrL H ps xs ys → PrL H' ps xs ys
  | [], _, _, _ => trivial
  | p :: ps, x :: xs, y :: ys, ⟨⟨T, e1, e2⟩, h⟩ => ⟨⟨T, e1, e _ _ e2⟩, PrL.ex e h⟩
  | _ :: _, [], _, h => h
  | _ :: _, _ :: _, [], h => h
theorem PrL.push {H : Hp} {x y : V} {T : Addr} : ∀ {ps xs ys : List V}, PrL H ps xs ys → xs[ps.length]? = some x → ys[ps.length]? = some y → H T = some (.tup [x, y]) → PrL H (ps ++ [.ref T]) xs ys
  | [], x :: xs, y :: ys, _, h1, h2, h3 => by
    cases h1; cases h2
    exact ⟨⟨T, rfl, h3⟩, trivial⟩
  | p :: ps, x :: xs, y :: ys, ⟨h0, h⟩, h1, h2, h3 => ⟨h0, PrL.push h (by simpa using h1) (by simpa using h2) h3⟩
  | [], [], _, _, h1, _, _ => by cases h1
  | [], _ :: _, [], _, _, h2, _ => by cases h2
  | _ :: _, [], _, h, _, _, _ => h.elim
  | _ :: _, _ :: _, [], h, _, _, _ => h.elim
section
variable {X : Cx} {pins : List (Addr × Obj)} {σ : L2.St}
theorem zloop {t : Bool} {z TI TO i1 i2 l1 l2 S : Addr} {us ws : Array Value} {xs ys : List V} {res : Value} {A : Around} {R : Result → Shared → Prop} {H0 : Hp} {n : Nat} (hh : A.handled = none) (D : ZipApart z TI TO i1 i2 l1 l2) (hx : Vals xs us.toList) (hy : Vals ys ws.toList) (hn : min xs.length ys.length = n) (hz : n ≤ sizeLine)
    (nS : z ≠ S ∧ TI ≠ S ∧ TO ≠ S ∧ i1 ≠ S ∧ i2 ≠ S ∧ l1 ≠ S ∧ l2 ≠ S) (hf : ∀ H s, Inv X pins σ H s → (∀ a o, H0 a = some o → H a = some o) → (∀ b, H b = none → b ∈ [z, TI, TO, i1, i2, S] → FpOk X pins H b))
    (hR : ∀ H s acc c ps, Inv X pins σ H s → (∀ a o, H0 a = some o → H a = some o) → H S = none → s.heap.get? S = some (lob acc c) → Vals ps acc.toList → PrL H ps xs ys → ps.length = n → R (.ok (.ret res)) s) :
    ∀ (k i : Nat) (H : Hp) (s : Shared) (acc : Array Value) (c : Nat) (ps : List V), n - i = k → i ≤ n → Inv X pins σ H s → (∀ a o, H0 a = some o → H a = some o) → (∀ b ∈ [z, TI, TO, i1, i2, S], H b = none) → ZS t z TI TO i1 i2 l1 l2 S us ws i s.heap →
      s.heap.get? S = some (lob acc c) → Vals ps acc.toList → PrL H ps xs ys → ps.length = i → codeAny (model X.prog X.w) A (.builtin "list.extend.loop" ⟨[.ref S, .ref z, res], []⟩) R s := by
  have lx : xs.length = us.size := by rw [hx.length]; simp
  have ly : ys.length = ws.size := by rw [hy.length]; simp
  intro k
  induction k with
  | zero =>
    intro i H s acc c ps hk hi I ex hN st hS hv hp hl
    refine codeAny_builtin PySem.F.entry_extend_loop ?_
    rw [Around.under_plainId PySem.F.plain_extend_loop _]
    show wpAny _ A.in1 (pyNext (.ref z) >>= _) _ _ s
    refine wpAny_bind (ZS.done (A := A.in1) hh D st ?_ fun g kp => ?_)
    · rw [Array.getElem?_eq_none_iff, Array.getElem?_eq_none_iff]; omega
    · have f := fun b hb => hf H s I ex b (hN b hb) hb
      have I2 : Inv X pins σ H { s with heap := g } := I.turnedL (t' := s.toks) (ch := [z, TO, i1, i2]) (fun b o hb e => kp b o (fun q => hb (by simp [q])) (fun q => hb (by simp [q])) (fun q => hb (by simp [q])) (fun q => hb (by simp [q])) e) fun b hb => f b (by
        simp only [List.mem_cons, List.not_mem_nil, or_false] at hb ⊢
        rcases hb with q | q | q | q <;> simp [q])
      exact wpAny_pure (hR H _ acc c ps I2 ex (hN S (by simp)) (kp _ _ nS.1.symm nS.2.2.1.symm nS.2.2.2.1.symm nS.2.2.2.2.1.symm hS) hv hp (by omega))
  | succ k ih =>
    intro i H s acc c ps hk hi I ex hN st hS hv hp hl
    have hi' : i < n := by omega
    obtain ⟨x, hx1⟩ : ∃ x, xs[i]? = some x := ⟨_, List.getElem?_eq_getElem (by omega)⟩
    obtain ⟨y, hy1⟩ : ∃ y, ys[i]? = some y := ⟨_, List.getElem?_eq_getElem (by omega)⟩
    obtain ⟨u, hu, ru⟩ := hx.get hx1
    obtain ⟨v, hv1, rv⟩ := hy.get hy1
    refine codeAny_builtin PySem.F.entry_extend_loop ?_
    rw [Around.under_plainId PySem.F.plain_extend_loop _]
    show wpAny _ A.in1 (pyNext (.ref z) >>= _) _ _ s
    refine wpAny_bind (ZS.item (A := A.in1) D (Heap.lt_size hS) st (by simpa using hu) (by simpa using hv1) fun g st2 e5 kp => ?_)
    have f := fun b hb => hf H s I ex b (hN b hb) hb
    have hSg := kp _ _ nS.1.symm nS.2.2.1.symm nS.2.2.2.1.symm nS.2.2.2.2.1.symm hS
    have new : ObjOk X.prog X.w (upd H s.heap.objs.size (.tup [x, y])) g s.heap.objs.size (.tup [x, y]) :=
      ⟨by show 2 ≤ sizeLine; decide, [u, v], .cons ru (.cons rv .nil), ⟨_, e5, rfl, _, rfl⟩⟩
    have I2 : Inv X pins σ (upd H s.heap.objs.size (.tup [x, y])) { s with heap := g } := I.turnedNew (t' := s.toks) (ch := [z, TO, i1, i2]) (fun b o hb e => kp b o (fun q => hb (by simp [q])) (fun q => hb (by simp [q])) (fun q => hb (by simp [q])) (fun q => hb (by simp [q])) e) (fun b hb => f b (by
        simp only [List.mem_cons, List.not_mem_nil, or_false] at hb ⊢
        rcases hb with q | q | q | q <;> simp [q])) (Nat.le_refl _) new
    have ex1 : ∀ a o, H a = some o → (upd H s.heap.objs.size (.tup [x, y])) a = some o := fun a o e => by rw [upd_ne (ne_of_none e (I.hok.fresh (Nat.le_refl _)))]; exact e
    have ex2 : ∀ a o, H0 a = some o → (upd H s.heap.objs.size (.tup [x, y])) a = some o := fun a o e => ex1 a o (ex a o e)
    have hN2 : ∀ b ∈ [z, TI, TO, i1, i2, S], (upd H s.heap.objs.size (.tup [x, y])) b = none := fun b hb => by
      have hlt : b < s.heap.objs.size := by
        obtain ⟨a1, a2, a3⟩ := st
        have hzz : ∃ o, s.heap.get? z = some o := by
          rcases a1 with ⟨a1, _⟩ | ⟨_, _, _, _, a1, _⟩ <;> exact ⟨_, a1⟩
        have hto : ∃ o, s.heap.get? TO = some o := by
          rcases a1 with ⟨_, _, _, a1⟩ | ⟨_, _, _, ⟨_, a1⟩, _⟩
          · exact ⟨_, a1⟩
          · exact a1
        have h12 : (∃ o, s.heap.get? i1 = some o) ∧ ∃ o, s.heap.get? i2 = some o := by
          cases t with
          | true => obtain ⟨⟨_, d1, _⟩, ⟨_, d2, _⟩, _⟩ := a3; exact ⟨⟨_, d1⟩, ⟨_, d2⟩⟩
          | false => obtain ⟨⟨_, d1, _⟩, ⟨_, d2, _⟩, _⟩ := a3; exact ⟨⟨_, d1⟩, ⟨_, d2⟩⟩
        simp only [List.mem_cons, List.not_mem_nil, or_false] at hb
        rcases hb with q | q | q | q | q | q
        · rw [q]; exact Heap.lt_size hzz.choose_spec
        · rw [q]; exact Heap.lt_size a2
        · rw [q]; exact Heap.lt_size hto.choose_spec
        · rw [q]; exact Heap.lt_size h12.1.choose_spec
        · rw [q]; exact Heap.lt_size h12.2.choose_spec
        · rw [q]; exact Heap.lt_size hS
      rw [upd_ne (Nat.ne_of_lt hlt)]; exact hN b hb
    show wpAny _ A.in1 (updateSeq S (·.push (.ref s.heap.objs.size)) >>= _) _ _ _
    have la : acc.size = i := by rw [← hl, hv.length, Array.length_toList]
    refine wpAny_bind (wpAny_updateSeq hSg rfl (wpAny_pure ⟨plainId_quiet PySem.F.plain_extend_loop _, ih (i + 1) _ _ (acc.push (.ref s.heap.objs.size)) _ (ps ++ [.ref s.heap.objs.size]) (by omega) hi' ?_ ex2 hN2 ?_ (Heap.get?_update_self _ hSg rfl) ?_ (PrL.push (hp.ex ex1) (by rw [hl]; exact hx1) (by rw [hl]; exact hy1) upd_same) (by rw [List.length_append, hl]; rfl)⟩)
      (by rw [la]; omega) (by show (acc.push _).size ≤ sizeLine + 1; rw [Array.size_push, la]; omega))
    · exact I2.turnedL (t' := s.toks) (ch := [S]) (fun b o hb e => (Heap.get?_update_other _ _ (fun q : S = b => hb (by simp [q]))).trans e) fun b hb => by
        have q : b = S := by simpa using hb
        rw [q]
        exact hf _ _ I2 ex2 S (hN2 S (by simp)) (by simp)
    · exact ZS.keep nS.1 nS.2.1 nS.2.2.1 nS.2.2.2.1 nS.2.2.2.2.1 nS.2.2.2.2.2.1 nS.2.2.2.2.2.2 st2 fun b o hb e => (Heap.get?_update_other _ _ (Ne.symm hb)).trans e
    · rw [Array.toList_push]; exact hv.append (.cons rfl .nil)
end
end Dz

set_option Elab.async false
set_option linter.all false
set_option maxRecDepth 100000
set_option maxHeartbeats 4000000
namespace Dz
open PySem PySem.Spec PyProof.Rows L2 RZ
theorem zip_len : typeLookup (.type "zip") "__len__" = pure none := am_miss_of_fast (by decide +kernel)
theorem zip_hint : typeLookup (.type "zip") "__length_hint__" = pure none := am_miss_of_fast (by decide +kernel)
section
variable {X : Cx} {pins : List (Addr × Obj)} {σ : L2.St}
/-- list(z), z a zip that has not begun -/
theorem list_zip {t : Bool} {z TI TO i1 i2 l1 l2 : Addr} {us ws : Array Value} {xs ys : List V} {H : Hp} {s : Shared} {Q : VK} (I : Inv X pins σ H s) (hc : X.calm = true) (D : ZipApart z TI TO i1 i2 l1 l2) (hx : Vals xs us.toList) (hy : Vals ys ws.toList)
    (hz : min xs.length ys.length ≤ sizeLine) (hf : ∀ b ∈ [z, TI, TO, i1, i2], FpOk X pins H b) (st : ZS t z TI TO i1 i2 l1 l2 s.heap.objs.size us ws 0 s.heap)
    (k : ∀ H' S ps, (∀ a o, H a = some o → H' a = some o) → H' S = none → PrL H' ps xs ys → ps.length = min xs.length ys.length → Q (.ref S) (upd H' S (.lst ps))) :
    wpAny (model X.prog X.w) X.A (call (.type "list") [.ref z]) (EP X pins σ Q) X.xe s := by
  have lt : ∀ b o, s.heap.get? b = some o → b ≠ s.heap.objs.size := fun b o e => Nat.ne_of_lt (Heap.lt_size e)
  have ns : z ≠ s.heap.objs.size ∧ TI ≠ s.heap.objs.size ∧ TO ≠ s.heap.objs.size ∧ i1 ≠ s.heap.objs.size ∧ i2 ≠ s.heap.objs.size ∧ l1 ≠ s.heap.objs.size ∧ l2 ≠ s.heap.objs.size := by
    obtain ⟨a1, a2, a3⟩ := st
    have h12 : i1 ≠ s.heap.objs.size ∧ i2 ≠ s.heap.objs.size ∧ l1 ≠ s.heap.objs.size ∧ l2 ≠ s.heap.objs.size := by
      cases t with
      | true => obtain ⟨⟨_, d1, _⟩, ⟨_, d2, _⟩, ⟨_, d3, _⟩, ⟨_, d4, _⟩⟩ := a3; exact ⟨lt _ _ d1, lt _ _ d2, lt _ _ d3, lt _ _ d4⟩
      | false => obtain ⟨⟨_, d1, _⟩, ⟨_, d2, _⟩, ⟨_, d3, _⟩, ⟨_, d4, _⟩⟩ := a3; exact ⟨lt _ _ d1, lt _ _ d2, lt _ _ d3, lt _ _ d4⟩
    rcases a1 with ⟨a1, _, _, a4⟩ | ⟨_, _, _, ⟨_, _, a4⟩, a1, _⟩
    · exact ⟨lt _ _ a1, lt _ _ a2, lt _ _ a4, h12⟩
    · exact ⟨lt _ _ a1, lt _ _ a2, lt _ _ a4, h12⟩
  generalize hS : s.heap.objs.size = S at st ns
  refine callType_codes (Q₁ := fun obj s₁ => obj = .ref s.heap.objs.size ∧ s₁ = { s with heap := s.heap.push { cls := .type "list", data := .seq #[] } }) PySem.F.called_list (PySem.F.typeCall_list_1 _) PySem.F.entry_list_init
    (code_list_new _ ⟨rfl, rfl⟩) fun obj s₁ h₁ => ?_
  obtain ⟨rfl, rfl⟩ := h₁
  have hN : (s.heap.push { cls := .type "list", data := .seq #[] }).get? s.heap.objs.size = some { cls := .type "list", data := .seq #[] } := Heap.get?_push_size _ rfl
  refine ⟨⟨_, hN, rfl⟩, PySem.F.args_list_init_2 _ _, ?_⟩
  have I1 : Inv X pins σ H { s with heap := s.heap.push { cls := .type "list", data := .seq #[] } } := I.kept (t' := s.toks) fun b o e => Heap.get?_push_of_some _ e
  have fS : FpOk X pins H S := by rw [← hS]; exact I.fpOk (Nat.le_refl _) (I.hok.fresh (Nat.le_refl _))
  have s1 := ZS.keep ns.1 ns.2.1 ns.2.2.1 ns.2.2.2.1 ns.2.2.2.2.1 ns.2.2.2.2.2.1 ns.2.2.2.2.2.2 st fun b o _ e => Heap.get?_push_of_some { cls := .type "list", data := .seq (#[] : Array Value) } e
  rw [hS] at hN ⊢
  show wpAny _ X.A.in1.in1 (do let old ← Builtin.List.listItems (.ref S); Builtin.List.listUpdate (.ref S) (fun _ => #[]); letGo old.toList.reverse; Builtin.List.listExtendWith (.ref S) (.ref z) .none) _ _ _
  refine wpAny_bind ?_
  unfold Builtin.List.listItems
  refine wpAny_bind (wpAny_seqItems hN rfl (wpAny_pure ?_))
  show wpAny _ X.A.in1.in1 (updateSeq S (fun _ => #[]) >>= fun _ => letGo (#[] : Array Value).toList.reverse >>= fun _ => Builtin.List.listExtendWith (.ref S) (.ref z) .none) _ _ _
  refine wpAny_bind (wpAny_updateSeq hN rfl ?_)
  have h2 := Heap.get?_update_self (Obj.mapSeq (fun _ => (#[] : Array Value))) hN rfl
  have oth : ∀ {g : Heap} {φ : Obj → Obj} b o, b ≠ S → g.get? b = some o → (g.update S φ).get? b = some o := fun b o hb e => (Heap.get?_update_other _ _ (Ne.symm hb)).trans e
  have I2 := I1.turnedL (h' := (s.heap.push { cls := .type "list", data := .seq #[] }).update S (Obj.mapSeq fun _ => #[])) (t' := s.toks) (ch := [S]) (fun b o hb e => oth b o (fun q => hb (by simp [q])) e) fun b hb => by rw [show b = S by simpa using hb]; exact fS
  have s2 := ZS.keep ns.1 ns.2.1 ns.2.2.1 ns.2.2.2.1 ns.2.2.2.2.1 ns.2.2.2.2.2.1 ns.2.2.2.2.2.2 s1 fun b o hb e => oth (φ := Obj.mapSeq fun _ => (#[] : Array Value)) b o hb e
  refine wpAny_bind (wpAny_letGo ?_)
  unfold Builtin.List.listExtendWith
  obtain ⟨oz, ho, hoc⟩ := s2.ty
  refine wpAny_bind (wpAny_typeOf (T := "zip") ⟨oz, ho, hoc⟩ ?_)
  have c1 : Builtin.List.listSameRef (.ref S) (.ref z) = false := by simp [Builtin.List.listSameRef, ns.1.symm]
  have c2 : (Value.type "zip" == Value.type "list") = false := by decide
  have c3 : (Value.type "zip" == Value.type "tuple") = false := by decide
  simp only [c1, c2, c3, Bool.or_false, Bool.false_eq_true, if_false]
  refine wpAny_bind (ZS.self s2 (wpAny_bind (wpAny_holding ?_)))
  unfold Builtin.List.listLengthHint
  refine wpAny_bind (wpAny_specialOf (T := "zip") ⟨oz, ho, hoc⟩ zip_len ?_)
  show wpAny _ X.A.in1.in1 (specialOf (Value.ref z) (Str.ofString "__length_hint__") >>= _) _ _ _
  refine wpAny_bind (wpAny_specialOf (T := "zip") ⟨oz, ho, hoc⟩ zip_hint (wpAny_pure ?_))
  show wpAny _ X.A.in1.in1 (rule "list.extend.makes-room" >>= fun _ => Builtin.List.listTouch (.ref S) >>= fun _ => again (.builtin "list.extend.loop" ⟨[.ref S, .ref z, .none], []⟩)) _ _ _
  refine wpAny_bind (wpAny_rule (wpAny_bind ?_))
  show wpAny _ X.A.in1.in1 (updateSeq S (·.push .none) >>= fun _ => updateSeq S (·.pop)) _ _ _
  refine wpAny_bind (wpAny_updateSeq h2 rfl ?_)
  have h3 := Heap.get?_update_self (Obj.mapSeq (·.push Value.none)) h2 rfl
  refine wpAny_updateSeq h3 rfl ?_
  have h4 := Heap.get?_update_self (Obj.mapSeq (·.pop)) h3 rfl
  have I3 := I2.turnedL (h' := (((s.heap.push { cls := .type "list", data := .seq #[] }).update S (Obj.mapSeq fun _ => #[])).update S (Obj.mapSeq (·.push Value.none))).update S (Obj.mapSeq (·.pop))) (t' := s.toks) (ch := [S]) (fun b o hb e => oth b o (fun q => hb (by simp [q])) (oth b o (fun q => hb (by simp [q])) e)) fun b hb => by rw [show b = S by simpa using hb]; exact fS
  have s3 := ZS.keep ns.1 ns.2.1 ns.2.2.1 ns.2.2.2.1 ns.2.2.2.2.1 ns.2.2.2.2.2.1 ns.2.2.2.2.2.2 s2 fun b o hb e => oth (φ := Obj.mapSeq (·.pop)) b o hb (oth (φ := Obj.mapSeq (·.push Value.none)) b o hb e)
  have hf' : ∀ b ∈ [z, TI, TO, i1, i2, S], FpOk X pins H b := fun b hb => by
    by_cases q : b = S
    · rw [q]; exact fS
    · refine hf b ?_
      simp only [List.mem_cons, List.not_mem_nil, or_false] at hb ⊢
      rcases hb with z | z | z | z | z | z
      · exact .inl z
      · exact .inr (.inl z)
      · exact .inr (.inr (.inl z))
      · exact .inr (.inr (.inr (.inl z)))
      · exact .inr (.inr (.inr (.inr z)))
      · exact absurd z q
  refine wpAny_pure ⟨plainId_quiet PySem.F.plain_extend_loop _, zloop (H0 := H) (A := X.A.in1) (I.ok.hd hc) D hx hy rfl hz ns (fun H1 s1 _ _ b hb hm => ⟨hb, (hf' b hm).2⟩) (fun H1 s1 acc c ps I4 ex hn hg hv hp hl => ?_) _ 0 H _ #[] _ [] rfl (Nat.zero_le _) I3 (fun _ _ h => h) (fun b hb => (hf' b hb).1) s3 h4 .nil trivial rfl⟩
  have f4 : FpOk X pins H1 S := ⟨hn, fS.2⟩
  refine ⟨rfl, .ref S, upd H1 S (.lst ps), I4.take (t' := s1.toks) (h' := s1.heap) (fun _ _ _ e => e) f4 (show ObjOk X.prog X.w (upd H1 S (.lst ps)) s1.heap S (.lst ps) from ⟨by omega, acc.toList, c, hv, by rw [Array.toArray_toList]; exact hg⟩), rfl, k H1 S ps ex hn hp hl⟩
end
end Dz
namespace Dn
open PySem PySem.Spec PyProof.Rows L2
section
variable {K : PySem.W.Frag} {X : Cx} {C : Fr} {f fa fb fc : De} {fr : DeL} {H : Hp} {σ : L2.St} {v : V} {x : PyData} {a b c e : Expr} {pos : Pos}
theorem prl_fp : ∀ {ps us ws : List V} {ds es : List PyData}, Dz.PrL H ps us ws → FpL K H ds us → FpL K H es ws → ps.length = min us.length ws.length → FpL K H (zipD ds es) ps
  | [], us, ws, ds, es, _, h1, h2, hl => by
    have : zipD ds es = [] := by
      unfold zipD
      refine List.eq_nil_of_length_eq_zero ?_
      rw [List.length_zipWith, ← h1.len, ← h2.len]
      exact hl.symm
    rw [this]; rfl
  | p :: ps, u :: us, w :: ws, d :: ds, e :: es, ⟨⟨T, e1, e2⟩, h⟩, ⟨v1, r1, q1, g1, t1⟩, ⟨v2, r2, q2, g2, t2⟩, hl => by
    cases q1; cases q2
    exact ⟨p, ps, rfl, ⟨T, _, e1, .inl (.inl e2), u, _, rfl, g1, w, _, rfl, g2, rfl⟩, prl_fp h t1 t2 (by simp only [List.length_cons] at hl; omega)⟩
  | _ :: _, _ :: _, _ :: _, [], _, _, h1, _, _ => by cases h1
  | _ :: _, _ :: _, _ :: _, _ :: _, [], _, _, h2, _ => by cases h2
  | _ :: _, [], _, _, _, h, _, _, _ => h.elim
  | _ :: _, _ :: _, [], _, _, h, _, _, _ => h.elim
/-- list(zip(a, b)): two tuples, or two lists -/
def dLZip (fa fb : De) : De := fun env => (fa env).bind fun r1 e1 => (fb e1).bind fun r2 e2 => match r1, r2 with
  | .d (.list xs), .d (.list ys) => .ok (.ow (.lst (zipD xs ys))) e2
  | .d (.tuple xs), .d (.tuple ys) => .ok (.ow (.lst (zipD xs ys))) e2
  | _, _ => .bad
def tLZ (K : PySem.W.Frag) (ta : TA) : TE := fun σ H Q => ta σ H fun vs H1 => ∃ (a b : Addr) (xs ys : List V), vs = [.ref a, .ref b] ∧ ((SqL K H1 a xs ∧ SqL K H1 b ys) ∨ (SqT K H1 a xs ∧ SqT K H1 b ys)) ∧
  ∀ H' S ps, (∀ a o, H1 a = some o → H' a = some o) → H' S = none → Dz.PrL H' ps xs ys → ps.length = min xs.length ys.length → Q (.ref S) (upd H' S (.lst ps))
theorem pe_lz {ta : TA} {p q zp : Pos} (hc : X.calm = true) (hg : Gl X "list") (hm : X.mg "list" = none) (hg2 : Gl X "zip") (hm2 : X.mg "zip" = none) (ha : PA X [a, b] ta)
    (na : starEach [Expr.Call (.Name "zip" q) [a, b] [] zp] X.env = (false, eval (Expr.Call (.Name "zip" q) [a, b] [] zp) X.env) :: starEach [] X.env := by rfl)
    (hs : starEach [a, b] X.env = (false, eval a X.env) :: starEach [b] X.env := by rfl) (hpl : (backTo zp (starEach [b] X.env)).any (·.1) = false := by rfl) :
    PE X (.Call (.Name "list" p) [.Call (.Name "zip" q) [a, b] [] zp] [] pos) (tLZ X.K ta) := by
  refine ⟨fun pins s σ H Q I h => ?_⟩
  refine Call_ (ld_blt I hg hm boot_list (PyProof.Rows.callWith_type1 (args_cons ?_ na) na))
  refine Call_ (ld_blt I hg2 hm2 PyProof.Rows.boot_zip (PyProof.Rows.callWith_type1 (thn (ha.run zp pins s σ H _ I h) fun us s1 ⟨vs, H1, I1, r1, q1⟩ => ?_) hs hpl))
  obtain ⟨a, b, xs, ys, rfl, hq, q⟩ := q1
  obtain ⟨u1, u2, rfl, r2, r3⟩ := vals2 r1
  cases (show u1 = Value.ref a from r2)
  cases (show u2 = Value.ref b from r3)
  have fresh5 : ∀ c, c ∈ [s1.heap.objs.size + 4, s1.heap.objs.size + 2, s1.heap.objs.size + 3, s1.heap.objs.size, s1.heap.objs.size + 1] → FpOk X pins H1 c := fun c hcm =>
    have hle : s1.heap.objs.size ≤ c := by
      simp only [List.mem_cons, List.not_mem_nil, or_false] at hcm
      omega
    I1.fpOk hle (I1.hok.fresh hle)
  rcases hq with ⟨h1, h2⟩ | ⟨h1, h2⟩
  · obtain ⟨its, rv, p1, z1⟩ := I1.list h1
    obtain ⟨its2, rv2, p2, z2⟩ := I1.list h2
    refine call_zip_2 p1.isList p2.isList fun h' hz hTI hTO k1 k2 hsz hk => ?_
    have I2 : Inv X pins σ H1 { s1 with heap := h' } := I1.kept (t' := s1.toks) hk
    refine args_nil (Dz.list_zip (t := false) (us := its.toArray) (ws := its2.toArray) I2 hc (PySem.W.ktu_apart s1.heap.objs.size a b p1.lt p2.lt) rv rv2 (Nat.le_trans (Nat.min_le_left _ _) z1) fresh5 ?_ q)
    obtain ⟨o1, n1, e1, c1, _, d1⟩ := p1
    obtain ⟨o2, n2, e2, c2, _, d2⟩ := p2
    exact ⟨.inl ⟨hz, _, _, hTO⟩, hTI, k1, k2, ⟨o1, hk _ _ e1, c1, n1, d1⟩, ⟨o2, hk _ _ e2, c2, n2, d2⟩⟩
  · obtain ⟨its, rv, p1, z1⟩ := I1.tuple h1
    obtain ⟨its2, rv2, p2, z2⟩ := I1.tuple h2
    obtain ⟨o1, e1, d1⟩ := id p1
    obtain ⟨o2, e2, d2⟩ := id p2
    refine RZ.call_zipT (show s1.heap.IsTuple a its.toArray from p1) (show s1.heap.IsTuple b its2.toArray from p2) fun h' hz hTI hTO k1 k2 hsz hk => ?_
    have I2 : Inv X pins σ H1 { s1 with heap := h' } := I1.kept (t' := s1.toks) hk
    exact args_nil (Dz.list_zip (t := true) (us := its.toArray) (ws := its2.toArray) I2 hc (PySem.W.ktu_apart s1.heap.objs.size a b (Heap.lt_size e1) (Heap.lt_size e2)) rv rv2 (Nat.le_trans (Nat.min_le_left _ _) z1) fresh5 ⟨.inl ⟨hz, _, _, hTO⟩, hTI, k1, k2, ⟨o1, hk _ _ e1, d1⟩, ⟨o2, hk _ _ e2, d2⟩⟩ q)
theorem de_lzip {p q zp : Pos} (hc : X.calm = true) (hg : Gl X "list") (hm : X.mg "list" = none) (hg2 : Gl X "zip") (hm2 : X.mg "zip" = none) (ha : PE X a (TD X.K C fa)) (hb : PE X b (TD X.K C fb))
    (na : starEach [Expr.Call (.Name "zip" q) [a, b] [] zp] X.env = (false, eval (Expr.Call (.Name "zip" q) [a, b] [] zp) X.env) :: starEach [] X.env := by rfl)
    (hs : starEach [a, b] X.env = (false, eval a X.env) :: starEach [b] X.env := by rfl) (hs2 : starEach [b] X.env = (false, eval b X.env) :: starEach [] X.env := by rfl) (hpl : (backTo zp (starEach [b] X.env)).any (·.1) = false := by rfl) :
    PE X (.Call (.Name "list" p) [.Call (.Name "zip" q) [a, b] [] zp] [] pos) (TD X.K C (dLZip (dSto fa) (dSto fb))) := PE.imp (pe_lz hc hg hm hg2 hm2 (pa_cons (de_sto ha) (pa_cons (de_sto hb) pa_nil hs2) hs) na hs hpl) fun σ H Q h => by
  obtain ⟨env, fs, E, h⟩ := h
  refine ⟨env, fs, E, h.bind.imp fun r1 e1 H1 fs1 _ p1 s1 E1 h1 v1 q1 => ?_⟩
  refine ⟨e1, fs1, E1, h1.bind.imp fun r2 e2 H2 fs2 _ p2 s2 E2 h2 v2 q2 => ?_⟩
  have q1' := RvR.step E1 q1 p2 s2
  have fin : ∀ {xs ys : List PyData} {us ws : List V} {H' : Hp} {S : Addr} {ps : List V}, FpL X.K H2 xs us → FpL X.K H2 ys ws → (∀ a o, H2 a = some o → H' a = some o) → H' S = none → Dz.PrL H' ps us ws → ps.length = min us.length ws.length →
      (∀ H' fs', Stp fs2.flatten H2 H' → Sub fs' fs2 → ER X.K C e2 σ H' fs' → ∀ v, RvR X.K H σ H' fs' (.ow (.lst (zipD xs ys))) v → Q v H') → Q (.ref S) (upd H' S (.lst ps)) := fun {xs ys us ws H' S ps} f1 f2 ex hS hp hl k => by
    have ex2 : Ex H2 (upd H' S (.lst ps)) := fun a o e => by rw [upd_ne (ne_of_none (ex a o e) hS)]; exact ex a o e
    have hS2 : H2 S = none := by
      cases q : H2 S with
      | none => rfl
      | some o => have := ex S o q; rw [hS] at this; cases this
    have n : Ne X.K H2 (upd H' S (.lst ps)) (.ow (.lst (zipD xs ys))) (.ref S) := ⟨ex2, [S], ⟨S, ps, rfl, rfl, upd_same, FpL.im (fun a o e i => by rw [upd_ne (ne_of_none e hS)]; exact e) _ _ (prl_fp hp (FpL.im (fun a o e _ => ex a o e) _ _ f1) (FpL.im (fun a o e _ => ex a o e) _ _ f2) hl)⟩, fun a ha => by rw [List.mem_singleton.mp ha]; exact hS2⟩
    obtain ⟨p, E', r'⟩ := n.out E2
    exact k _ fs2 p Sub.refl E' _ (r'.back fun a z => p2.there a (p1.there a z))
  match r1, r2, h2, q1', q2 with
  | .d (.list xs), .d (.list ys), h2, q1', q2 =>
    obtain ⟨a1, us, rfl, z1, f1⟩ := q1'
    obtain ⟨a2, ws, rfl, z2, f2⟩ := q2
    exact ⟨a1, a2, us, ws, rfl, .inl ⟨.inl z1.rd, .inl z2.rd⟩, fun H' S ps ex hS hp hl => fin f1 f2 ex hS hp hl h2⟩
  | .d (.tuple xs), .d (.tuple ys), h2, q1', q2 =>
    obtain ⟨a1, us, rfl, z1, f1⟩ := q1'
    obtain ⟨a2, ws, rfl, z2, f2⟩ := q2
    exact ⟨a1, a2, us, ws, rfl, .inr ⟨z1, z2⟩, fun H' S ps ex hS hp hl => fin f1 f2 ex hS hp hl h2⟩
end
end Dn

set_option Elab.async false
set_option linter.all false
set_option maxRecDepth 100000
set_option maxHeartbeats 4000000
namespace Dn
open PySem PySem.Spec PyProof.Rows L2
/-! ### the deck of a law -/
abbrev DkK := Str × Str × Str
def dkHO (ks : DkK) (c : Addr) (m t : Int) : HO := .dK [(.inr ks.1, .ref c), (.inr ks.2.1, .int m), (.inr ks.2.2, .int t)]
def okK (ks : DkK) : Bool := ks.1 != ks.2.1 && ks.1 != ks.2.2 && ks.2.1 != ks.2.2
structure DkV where
  cs : List Int
  m : Int
  t : Int
def deckAt (ks : DkK) (env : List Sl) (i : Nat) : Option DkV := match owAt env i with
  | some (.deck k cs m t) => if k = ks ∧ okK ks = true then some ⟨cs, m, t⟩ else none
  | _ => none
section
variable {K : PySem.W.Frag} {X : Cx} {C : Fr} {f fa fb fc : De} {fr : DeL} {H H' : Hp} {σ : L2.St} {v : V} {x : PyData} {a b c e : Expr} {pos : Pos} {env : List Sl} {fs : List (List Addr)} {D : Ends} {ks : DkK}
theorem deckAt_of {i : Nat} {q : DkV} (h : deckAt ks env i = some q) : owAt env i = some (.deck ks q.cs q.m q.t) ∧ okK ks = true := by
  unfold deckAt at h
  cases z : owAt env i with
  | none => rw [z] at h; cases h
  | some w =>
    rw [z] at h
    cases w with
    | deck k cs m t =>
      dsimp only at h
      split at h
      · rename_i y; cases h; rw [y.1]; exact ⟨rfl, y.2⟩
      · cases h
    | lst xs => cases h
    | dct xs => cases h
theorem ER.wrDeck (E : ER K C env σ H fs) {i : Nat} {ks : Str × Str × Str} {cs : List Int} {m t : Int} (hi : owAt env i = some (.deck ks cs m t)) :
    ∃ a c, σ[i]? = some (some (.ref a)) ∧ a ≠ c ∧ H a = some (dkHO ks c m t) ∧ H c = some (.lst (cs.map .int)) ∧ ∀ cs' m' t' H', H' a = some (dkHO ks c m' t') → H' c = some (.lst (cs'.map .int)) → (∀ b, b ≠ a → b ≠ c → H' b = H b) → Stp fs.flatten H H' ∧ ER K C (setOw env i (.deck ks cs' m' t')) σ H' fs := by
  obtain ⟨v, A, h1, h2, a, c, rfl, rfl, ne, e1, e2⟩ := owAt_get E hi
  have ma : a ∈ fs.flatten := mem_of_get h2 (by simp)
  have mc : c ∈ fs.flatten := mem_of_get h2 (by simp)
  refine ⟨a, c, h1, ne, e1, e2, fun cs' m' t' H' g1 g2 g3 => ?_⟩
  have im : Im H H' := fun b u q iu => by
    rw [g3 b (fun z => by rw [z, e1] at q; cases q; cases iu) (fun z => by rw [z, e2] at q; cases q; cases iu)]; exact q
  have ap1 := flat_apart E.nd h2 (a := a) (by simp)
  have ap2 := flat_apart E.nd h2 (a := c) (by simp)
  have q1 : SlRs K H (env.set i .un) (σ.set i (some (.ref a))) (fs.set i []) := SlRs.put (s := .un) (A := []) rfl i E.sl
  rw [set_self h1] at q1
  have q2 := SlRs.keep im q1 fun b hb u q => by rw [g3 b (fun z => ap1 (by rw [← z]; exact hb)) (fun z => ap2 (by rw [← z]; exact hb))]; exact q
  have li : i < fs.length := (List.getElem?_eq_some_iff.mp h2).1
  obtain ⟨q3, q5⟩ := setOw_ok (S := C.S0) (w' := .deck ks cs' m' t') (A := [a, c]) hi ⟨_, rfl, a, c, rfl, rfl, ne, g1, g2⟩ q2 h1 (List.getElem?_set_self li) E.le
  rw [List.set_set, set_self h2] at q3
  have keep : ∀ b u, H b = some u → b ∉ fs.flatten → H' b = some u := fun b u q n => by rw [g3 b (fun z => n (by rw [z]; exact ma)) (fun z => n (by rw [z]; exact mc))]; exact q
  have there : ∀ b, H b ≠ none → H' b ≠ none := fun b q => by
    by_cases z : b = a
    · rw [z, g1]; simp
    · by_cases z2 : b = c
      · rw [z2, g2]; simp
      · rw [g3 b z z2]; exact q
  have tabs : LamX.Tabs C.T H' := fun q hq => by
    obtain ⟨ps, y1, y2, y3⟩ := E.tabs q hq
    refine ⟨ps, ?_, y2, fun p cv hc => ?_⟩
    · rw [g3 _ (fun z => by rw [z, e1] at y1; cases y1) (fun z => by rw [z, e2] at y1; cases y1)]; exact y1
    · obtain ⟨cc, z1, z2⟩ := y3 p cv hc
      exact ⟨cc, z1, by rw [g3 _ (fun z => by rw [z, e1] at z2; cases z2) (fun z => by rw [z, e2] at z2; cases z2)]; exact z2⟩
  refine ⟨⟨fun b u q n _ => keep b u q n, there⟩, ⟨q3, E.nd, own_setOw hi E.own, fun b u q l tb => ?_, fun b q => there b (E.there b q), tabs, q5, fun j w e => by obtain ⟨w2, y⟩ := setOw_le e; exact E.lf j w2 y⟩⟩
  have na : b ≠ a := fun z => by
    subst z
    rcases E.ownAny b ma with y | y
    · rw [y] at q; cases q
    · exact l y
  have nc : b ≠ c := fun z => by
    subst z
    rcases E.ownAny b mc with y | y
    · rw [y] at q; cases q
    · exact l y
  rw [g3 b na nc]; exact E.kept b u q l tb
/-- deck['mixed'], deck['draws'] -/
def dDkI (ks : DkK) (i : Nat) (second : Bool) : De := fun env => match deckAt ks env i with
  | some q => .ok (.d (.int (if second then q.t else q.m))) env
  | none => .bad
theorem noSl_str {k : Str} {z : Nat} {p : Pos} : NoSl (.Constant (.str k) z p) := fun _ _ => rfl
theorem okK_ne (h : okK ks = true) : ks.1 ≠ ks.2.1 ∧ ks.1 ≠ ks.2.2 ∧ ks.2.1 ≠ ks.2.2 := by
  unfold okK at h
  simpa [and_assoc] using h
theorem get1 {c : Addr} {m t : Int} : valV [((.inr ks.1 : Key), V.ref c), (.inr ks.2.1, .int m), (.inr ks.2.2, .int t)] (.inr ks.1) = some (.ref c) := valV_pos rfl
theorem get2 (h : okK ks = true) {c : Addr} {m t : Int} : valV [((.inr ks.1 : Key), V.ref c), (.inr ks.2.1, .int m), (.inr ks.2.2, .int t)] (.inr ks.2.1) = some (.int m) := by
  rw [valV_neg (fun e => (okK_ne h).1 (by injection e)), valV_pos rfl]
theorem get3 (h : okK ks = true) {c : Addr} {m t : Int} : valV [((.inr ks.1 : Key), V.ref c), (.inr ks.2.1, .int m), (.inr ks.2.2, .int t)] (.inr ks.2.2) = some (.int t) := by
  rw [valV_neg (fun e => (okK_ne h).2.1 (by injection e)), valV_neg (fun e => (okK_ne h).2.2 (by injection e)), valV_pos rfl]
theorem de_dkM {i : Nat} {y : Str} {p p2 : Pos} {z : Nat} (hu : X.A.units + 1 < cLine) (hx : PE X (.Name y p) (tVar i)) : PE X (.Subscript (.Name y p) (.Constant (.str ks.2.1) z p2) pos) (TD X.K C (dDkI ks i false)) := PE.imp (pe_dget hu hx pe_str noSl_str) fun σ H Q h => by
  obtain ⟨env, fs, E, h⟩ := h
  unfold dDkI at h
  cases q : deckAt ks env i with
  | none => rw [q] at h; exact h.elim
  | some w =>
    rw [q] at h
    obtain ⟨q1, q2⟩ := deckAt_of q
    obtain ⟨a, c, h1, _, h2, _⟩ := E.wrDeck q1
    exact ⟨.ref a, h1, a, .int w.m, rfl, .inl ⟨_, .inr ks.2.1, .inl h2, rfl, (get2 q2).symm⟩, h H fs .refl .refl E _ rfl⟩
theorem de_dkT {i : Nat} {y : Str} {p p2 : Pos} {z : Nat} (hu : X.A.units + 1 < cLine) (hx : PE X (.Name y p) (tVar i)) : PE X (.Subscript (.Name y p) (.Constant (.str ks.2.2) z p2) pos) (TD X.K C (dDkI ks i true)) := PE.imp (pe_dget hu hx pe_str noSl_str) fun σ H Q h => by
  obtain ⟨env, fs, E, h⟩ := h
  unfold dDkI at h
  cases q : deckAt ks env i with
  | none => rw [q] at h; exact h.elim
  | some w =>
    rw [q] at h
    obtain ⟨q1, q2⟩ := deckAt_of q
    obtain ⟨a, c, h1, _, h2, _⟩ := E.wrDeck q1
    exact ⟨.ref a, h1, a, .int w.t, rfl, .inl ⟨_, .inr ks.2.2, .inl h2, rfl, (get3 q2).symm⟩, h H fs .refl .refl E _ rfl⟩
theorem shaped_ints (cs : List Int) : SeqAt.shaped (.list (cs.map .int)) = true := by
  have h1 : ∀ cs : List Int, PyData.canLayAll0 (cs.map .int) = true := fun cs => by
    induction cs with
    | nil => rfl
    | cons c r ih => simpa [PyData.canLayAll0, PyData.canLay0] using ih
  have h2 : ∀ cs : List Int, PyData.depthAll (cs.map .int) = 0 := fun cs => by
    induction cs with
    | nil => rfl
    | cons c r ih => simp [PyData.depthAll, PyData.depth, ih]
  simp [SeqAt.shaped, PyData.canLay0, PyData.depth, h1, h2]
/-- deck['cells'] != [] -/
def dDkNe (ks : DkK) (i : Nat) : De := fun env => match deckAt ks env i with
  | some q => .ok (.d (.bool !q.cs.isEmpty)) env
  | none => .bad
theorem dp_ints {l : Addr} {cs : List Int} (h : SqL K H l (cs.map V.int)) : Dp K H (.ref l) (.list (cs.map .int)) := by
  refine .lst h ?_
  clear h
  induction cs with
  | nil => exact .nil
  | cons c r ih => exact .cons (.int c) ih
theorem td_dkNe {i : Nat} {Q : VK} (h : TD K C (dDkNe ks i) σ H Q) : tOp (rNeD K) (tDGet (tVar i) (tC (.str ks.1))) (tLst tNil) σ H Q := by
  obtain ⟨env, fs, E, h⟩ := h
  unfold dDkNe at h
  cases q : deckAt ks env i with
  | none => rw [q] at h; exact h.elim
  | some w =>
    rw [q] at h; dsimp only at h
    obtain ⟨q1, q2⟩ := deckAt_of q
    obtain ⟨a, c, h1, _, h2, h3, _⟩ := E.wrDeck q1
    refine ⟨.ref a, h1, a, .ref c, rfl, .inl ⟨_, .inr ks.1, .inl h2, rfl, get1.symm⟩, Nat.zero_le _, fun l hl => ⟨.list (w.cs.map .int), .list [], dp_ints (.inl (.inl (Ex.new hl _ _ h3))), .lst (.inl (.inl upd_same)) .nil, ?_, rfl, ?_⟩⟩
    · exact shaped_ints _
    · have e : PyData.eqv (.list (w.cs.map .int)) (.list []) = w.cs.isEmpty := by
        cases hw : w.cs with
        | nil => rfl
        | cons k r => rfl
      rw [e]
      have ex : Ex H (upd H l (.lst [])) := Ex.new hl
      exact h _ fs (.of_ex ex) .refl (E.ex ex) _ rfl
theorem de_dkNe {i : Nat} {y : Str} {p p2 p3 p4 : Pos} {z : Nat} (hu : X.A.units + 64 < cLine) (hx : PE X (.Name y p) (tVar i)) (hm : behindInMarks .NotEq (.List [] p4) = false := by rfl) : PE X (.Compare (.Subscript (.Name y p) (.Constant (.str ks.1) z p2) p3) [.NotEq] [.List [] p4] pos) (TD X.K C (dDkNe ks i)) := PE.imp (pe_cmpR (op_neD hu) (pe_dget (by omega) hx pe_str noSl_str) (pe_lst pa_nil) hm) fun _ _ _ h => td_dkNe h
theorem dt_dkNe {i : Nat} {y : Str} {p p2 p3 p4 : Pos} {z : Nat} (hu : X.A.units + 64 < cLine) (hx : PE X (.Name y p) (tVar i)) (hm : behindInMarks .NotEq (.List [] p4) = false := by rfl) : PT X (.Compare (.Subscript (.Name y p) (.Constant (.str ks.1) z p2) p3) [.NotEq] [.List [] p4] pos) (TB X.K C (dDkNe ks i)) := PT.imp (pt_cmpR (op_neD hu) (pe_dget (by omega) hx pe_str noSl_str) (pe_lst pa_nil) hm) fun _ _ _ h => td_dkNe (tb_td h)
/-- deck['cells'].pop() -/
def dDkPop (ks : DkK) (i : Nat) : De := fun env => match deckAt ks env i with
  | some q => (match q.cs[q.cs.length - 1]? with
    | some k => .ok (.d (.int k)) (setOw env i (.deck ks q.cs.dropLast q.m q.t))
    | none => .bad)
  | none => .bad
theorem de_dkPop {i : Nat} {y : Str} {p p2 p3 apos cpos : Pos} {z : Nat} (hu : X.A.units + 1 < cLine) (hx : PE X (.Name y p) (tVar i))
    (hb : attributeBase (.Subscript (.Name y p) (.Constant (.str ks.1) z p2) p3) "pop" X.env (eval (.Subscript (.Name y p) (.Constant (.str ks.1) z p2) p3) X.env) = eval (.Subscript (.Name y p) (.Constant (.str ks.1) z p2) p3) X.env := by rfl) (hl : (apos.endLine == cpos.line) = true := by rfl) :
    PE X (.Call (.Attribute (.Subscript (.Name y p) (.Constant (.str ks.1) z p2) p3) "pop" apos) [] [] cpos) (TD X.K C (dDkPop ks i)) := PE.imp (pe_bm0 PySem.F.plainAttrs_list PySem.F.slot_list_pop PySem.F.type_list_pop mt_pop (pe_dget hu hx pe_str noSl_str) hb hl) fun σ H Q h => by
  obtain ⟨env, fs, E, h⟩ := h
  unfold dDkPop at h
  cases q : deckAt ks env i with
  | none => rw [q] at h; exact h.elim
  | some w =>
    rw [q] at h; dsimp only at h
    obtain ⟨q1, q2⟩ := deckAt_of q
    obtain ⟨a, c, h1, ne, h2, h3, k⟩ := E.wrDeck q1
    cases hk : w.cs[w.cs.length - 1]? with
    | none => rw [hk] at h; exact h.elim
    | some n =>
      rw [hk] at h; dsimp only at h
      refine ⟨.ref a, h1, a, .ref c, rfl, .inl ⟨_, .inr ks.1, .inl h2, rfl, get1.symm⟩, .inl ⟨rfl, _, .inl (.inl h3)⟩, c, _, .int n, rfl, rfl, h3, by rw [List.length_map, List.getElem?_map, hk]; rfl, ?_⟩
      obtain ⟨p2, E2⟩ := k w.cs.dropLast w.m w.t (upd H c (.lst (w.cs.map V.int).dropLast)) (by rw [upd_ne ne]; exact h2) (by rw [upd_same, List.map_dropLast]) fun b _ nb => upd_ne nb
      exact h _ fs p2 .refl E2 _ rfl
/-! #### a value that is read while nothing is written -/
def roE (env : List Sl) : List Sl := env.map fun s => match s with
  | .ow _ => .un
  | .le _ => .un
  | s => s
def TRo (K : PySem.W.Frag) (T : List (Addr × Str)) (f : De) : TE := fun σ H Q => ∃ C : Fr, C.T = T ∧ TD K C f σ H Q
theorem pe_ro {T : List (Addr × Str)} (h : ∀ C : Fr, C.T = T → PE X e (TD X.K C f)) : PE X e (TRo X.K T f) := ⟨fun pins s σ H Q I ⟨C, hC, q⟩ => (h C hC).run pins s σ H Q I q⟩
theorem SlRs.ro : ∀ {env : List Sl} {σ : L2.St} {fs : List (List Addr)}, SlRs K H env σ fs → SlRs K H (roE env) σ (env.map fun _ => [])
  | [], _, _, h => ⟨h.1, rfl⟩
  | s :: ss, _, _, ⟨o, os, A, As, e1, e2, h, t⟩ => by
    refine ⟨o, os, [], ss.map fun _ => [], e1, rfl, ?_, SlRs.ro t⟩
    cases s with
    | ow w => rfl
    | le w => rfl
    | un => rfl
    | d x => exact ⟨rfl, h.2⟩
    | rng lo hi => exact ⟨rfl, h.2⟩
    | scr ns => exact ⟨rfl, h.2⟩
theorem ro_empty (env : List Sl) : (env.map fun _ => ([] : List Addr)).flatten = [] := by
  induction env with
  | nil => rfl
  | cons s r ih => simpa using ih
theorem roE_le {env : List Sl} {i : Nat} {w : Ow} (h : (roE env)[i]? = some (.le w)) : False := by
  unfold roE at h
  rw [List.getElem?_map] at h
  cases q : env[i]? with
  | none => rw [q] at h; cases h
  | some s => rw [q] at h; cases s <;> cases h
theorem E0_ro {T : List (Addr × Str)} (E : ER K C env σ H fs) (W : WX) (cls : Str → Addr) : ER K { T := C.T, H0 := H, S0 := σ, F0 := [], L := [], W := W, cls := cls } (roE env) σ H (env.map fun _ => []) where
  sl := E.sl.ro
  nd := by rw [ro_empty]; exact .nil
  own := fun i A hA a ha => by
    rw [List.getElem?_map] at hA
    cases q : env[i]? with
    | none => rw [q] at hA; cases hA
    | some s => rw [q] at hA; cases hA; cases ha
  kept := fun a o h _ _ => h
  there := fun a h => h
  tabs := E.tabs
  le := fun i w h => (roE_le h).elim
  lf := fun i w h => (roE_le h).elim
/-- the read-only reading: what it gives, and that all that is tracked stays -/
theorem td_ro (E : ER K C env σ H fs) {r : PyData} {e1 : List Sl} (hr : f (roE env) = .ok (.d r) e1) {Q : VK} (k : ∀ v H', (∀ a o, H a = some o → (∀ ps, o ≠ .tbl ps) → H' a = some o) → (∀ a, H a ≠ none → H' a ≠ none) → LamX.Tabs C.T H' → Fp K H' r v → Q v H') : TRo K C.T f σ H Q := by
  refine ⟨{ T := C.T, H0 := H, S0 := σ, F0 := [], L := [], W := C.W, cls := C.cls }, rfl, roE env, _, E0_ro (T := C.T) E C.W C.cls, ?_⟩
  rw [hr]
  intro H' fs' p s E' v rv
  exact k v H' (fun a o h t => E'.kept a o h (fun z => by cases z) t) (fun a h => E'.there a h) E'.tabs rv
theorem ER.exT (E : ER K C env σ H fs) (e : ∀ a o, H a = some o → (∀ ps, o ≠ .tbl ps) → H' a = some o) (th : ∀ a, H a ≠ none → H' a ≠ none) (tb : LamX.Tabs C.T H') : Stp fs.flatten H H' ∧ ER K C env σ H' fs := by
  have im : Im H H' := fun a o h i => e a o h fun ps z => by subst z; cases i
  refine ⟨⟨fun a o h _ t => e a o h t, th⟩, ⟨SlRs.keep im E.sl fun a ha o h => e a o h fun ps z => ?_, E.nd, E.own, fun a o h l t => e a o (E.kept a o h l t) t, fun a h => th a (E.there a h), tb, E.le, E.lf⟩⟩
  obtain ⟨u, q1, q2⟩ := E.sl.wr a ha
  rw [h] at q1; cases q1
  exact wr_tbl q2 ps z
/-- deck['cells'].append(e) -/
def dDkApp (ks : DkK) (i : Nat) (f : De) : De := fun env => match deckAt ks env i, f (roE env) with
  | some q, .ok (.d (.int k)) _ => if q.cs.length < lim then .ok (.d .none) (setOw env i (.deck ks (q.cs ++ [k]) q.m q.t)) else .bad
  | _, _ => .bad
theorem de_dkApp {i : Nat} {y : Str} {p p2 p3 apos cpos : Pos} {z : Nat} (hu : X.A.units + 1 < cLine) (hx : PE X (.Name y p) (tVar i)) (he : ∀ C' : Fr, C'.T = C.T → PE X e (TD X.K C' f))
    (hb : attributeBase (.Subscript (.Name y p) (.Constant (.str ks.1) z p2) p3) "append" X.env (eval (.Subscript (.Name y p) (.Constant (.str ks.1) z p2) p3) X.env) = eval (.Subscript (.Name y p) (.Constant (.str ks.1) z p2) p3) X.env := by rfl)
    (hf : ((backTo cpos (starEach [e] X.env)).all (fun x => !x.1) && (backToKw cpos (keywordEach [] X.env)).all (fun x => x.1.isSome) && decide ([e].length + ([] : List Keyword).length + (if ([] : List Keyword).isEmpty then 0 else 1) < 30)) = true := by rfl) (hl : (apos.endLine == cpos.line) = true := by rfl) (h1 : starEach [e] X.env = (false, eval e X.env) :: starEach [] X.env := by rfl) (h2 : (backTo cpos (starEach [] X.env)).any (·.1) = false := by rfl) :
    PE X (.Call (.Attribute (.Subscript (.Name y p) (.Constant (.str ks.1) z p2) p3) "append" apos) [e] [] cpos) (TD X.K C (dDkApp ks i f)) := PE.imp (pe_bm PySem.F.plainAttrs_list PySem.F.slot_list_append PySem.F.type_list_append mt_append (pe_dget hu hx pe_str noSl_str) (pa_cons (pe_ro he) pa_nil h1) hb hf hl h1 h2) fun σ H Q h => by
  obtain ⟨env, fs, E, h⟩ := h
  unfold dDkApp at h
  cases q : deckAt ks env i with
  | none => rw [q] at h; exact h.elim
  | some w =>
    rw [q] at h
    obtain ⟨q1, q2⟩ := deckAt_of q
    obtain ⟨a, c, h1, ne, h2, h3, _⟩ := E.wrDeck q1
    match hr : f (roE env), h with
    | .ok (.d (.int n)) e1, h =>
      dsimp only at h
      by_cases hl : w.cs.length < lim
      · rw [if_pos hl] at h
        refine ⟨.ref a, h1, a, .ref c, rfl, .inl ⟨_, .inr ks.1, .inl h2, rfl, get1.symm⟩, .inl ⟨rfl, _, .inl (.inl h3)⟩, td_ro E hr fun v H1 k1 k2 k3 rv => ?_⟩
        obtain ⟨p1, E1⟩ := E.exT k1 k2 k3
        have g2 := k1 _ _ h2 fun ps e => by cases e
        have g3 := k1 _ _ h3 fun ps e => by cases e
        obtain ⟨a', c', y1, ne', y2, y3, k⟩ := E1.wrDeck q1
        rw [h1] at y1; cases y1
        have hc : c' = c := by
          have g2 : H1 a = some (dkHO ks c w.m w.t) := g2
          rw [g2] at y2
          unfold dkHO at y2
          injection y2 with y2
          injection y2 with y2
          injection y2 with y2
          injection y2 with _ y2
          injection y2 with y2
          exact y2.symm
        subst hc
        obtain ⟨p2, E2⟩ := k (w.cs ++ [n]) w.m w.t (upd H1 c' (.lst (w.cs.map V.int ++ [v]))) (by rw [upd_ne ne']; exact y2) (by rw [upd_same, show v = .int n from rv, List.map_append]; rfl) fun b _ nb => upd_ne nb
        exact ⟨c', _, v, rfl, rfl, y3, by rw [List.length_map]; exact lim_lt hl, h _ fs (p1.trans p2 .refl) .refl E2 _ rfl⟩
      · rw [if_neg hl] at h; exact h.elim
/-- deck['mixed'] = e, deck['draws'] = e -/
def dDkSet (ks : DkK) (i : Nat) (second : Bool) (f : De) : Ds := fun env => sOf (f env) fun r e => match deckAt ks e i, r with
  | some q, .d (.int k) => .nx (setOw e i (.deck ks q.cs (if second then q.m else k) (if second then k else q.t)))
  | _, _ => .bad
theorem put2 (h : okK ks = true) {c : Addr} {m t : Int} {v : V} : putK [((.inr ks.1 : Key), V.ref c), (.inr ks.2.1, .int m), (.inr ks.2.2, .int t)] (.inr ks.2.1) v = [((.inr ks.1 : Key), V.ref c), (.inr ks.2.1, v), (.inr ks.2.2, .int t)] := by
  obtain ⟨h1, h2, h3⟩ := okK_ne h
  simp [putK, h1, Ne.symm h3]
theorem put3 (h : okK ks = true) {c : Addr} {m t : Int} {v : V} : putK [((.inr ks.1 : Key), V.ref c), (.inr ks.2.1, .int m), (.inr ks.2.2, .int t)] (.inr ks.2.2) v = [((.inr ks.1 : Key), V.ref c), (.inr ks.2.1, .int m), (.inr ks.2.2, v)] := by
  obtain ⟨h1, h2, h3⟩ := okK_ne h
  simp [putK, h2, h3]
theorem ds_dkM {i : Nat} {y : Str} {p p2 pos' : Pos} {z : Nat} (hu : X.A.units + 1 < cLine) (hx : PE X (.Name y p) (tVar i)) (he : PE X e (TD X.K C f)) (hs : swapsWith e (some (.Subscript (.Name y p) (.Constant (.str ks.2.1) z p2) pos')) pos.line X.env = pure false := by rfl) :
    PS X (.Assign [.Subscript (.Name y p) (.Constant (.str ks.2.1) z p2) pos'] e pos) (TSD X.K C (dDkSet ks i false f)) := PS.imp (ps_dput hu hx pe_str he hs) fun D σ H h => by
  obtain ⟨env, fs, E, h⟩ := h
  refine ⟨env, fs, E, (SAft.of E h).imp fun r e1 H1 fs1 _ p1 s1 E1 g v rv => ?_⟩
  cases q : deckAt ks e1 i with
  | none => rw [q] at g; exact g.elim
  | some w =>
    rw [q] at g
    obtain ⟨q1, q2⟩ := deckAt_of q
    match r, g, rv with
    | .d (.int n), g, rv =>
      obtain ⟨a, c, h1, ne, h2, h3, k⟩ := E1.wrDeck q1
      obtain ⟨p2, E2⟩ := k w.cs n w.t (upd H1 a (dkHO ks c n w.t)) upd_same (by rw [upd_ne (Ne.symm ne)]; exact h3) fun b nb _ => upd_ne nb
      refine ⟨.ref a, h1, a, _, rfl, .inl ⟨_, .inr ks.2.1, h2, rfl, by rw [sizeLine_eq]; show 3 < 16777216; decide, rfl⟩, ?_⟩
      rw [put2 q2, show v = .int n from rv]
      exact g σ _ fs1 (E1.im p2) E2
theorem ds_dkT {i : Nat} {y : Str} {p p2 pos' : Pos} {z : Nat} (hu : X.A.units + 1 < cLine) (hx : PE X (.Name y p) (tVar i)) (he : PE X e (TD X.K C f)) (hs : swapsWith e (some (.Subscript (.Name y p) (.Constant (.str ks.2.2) z p2) pos')) pos.line X.env = pure false := by rfl) :
    PS X (.Assign [.Subscript (.Name y p) (.Constant (.str ks.2.2) z p2) pos'] e pos) (TSD X.K C (dDkSet ks i true f)) := PS.imp (ps_dput hu hx pe_str he hs) fun D σ H h => by
  obtain ⟨env, fs, E, h⟩ := h
  refine ⟨env, fs, E, (SAft.of E h).imp fun r e1 H1 fs1 _ p1 s1 E1 g v rv => ?_⟩
  cases q : deckAt ks e1 i with
  | none => rw [q] at g; exact g.elim
  | some w =>
    rw [q] at g
    obtain ⟨q1, q2⟩ := deckAt_of q
    match r, g, rv with
    | .d (.int n), g, rv =>
      obtain ⟨a, c, h1, ne, h2, h3, k⟩ := E1.wrDeck q1
      obtain ⟨p2, E2⟩ := k w.cs w.m n (upd H1 a (dkHO ks c w.m n)) upd_same (by rw [upd_ne (Ne.symm ne)]; exact h3) fun b nb _ => upd_ne nb
      refine ⟨.ref a, h1, a, _, rfl, .inl ⟨_, .inr ks.2.2, h2, rfl, by rw [sizeLine_eq]; show 3 < 16777216; decide, rfl⟩, ?_⟩
      rw [put3 q2, show v = .int n from rv]
      exact g σ _ fs1 (E1.im p2) E2
end
end Dn

set_option Elab.async false
set_option linter.all false
set_option maxRecDepth 100000
set_option maxHeartbeats 4000000
namespace Dn
open PySem PySem.Spec PyProof.Rows L2
section
variable {K : PySem.W.Frag} {X : Cx} {C : Fr} {f fa fb fc fm ft : De} {fr : DeL} {H H' : Hp} {σ : L2.St} {v : V} {x : PyData} {a b c e : Expr} {pos : Pos} {env : List Sl} {fs : List (List Addr)} {D : Ends} {ks : DkK}
/-- script[lo:hi] -/
def dScrCut (i : Nat) (lo hi : Do) : De := fun env => match env[i]? with
  | some (.scr ns) => (lo env).bind fun l e2 => (hi e2).bind fun u e3 => .ok (.ow (.lst (cutD (ns.map .int) l u))) e3
  | _ => .bad
theorem de_scrCut {i : Nat} {y : Str} {p p2 : Pos} {lo hi : Option Expr} {fl fh : Do} (hx : PE X (.Name y p) (tVar i)) (hl : PO X lo (TOD X.K C fl)) (hu : PO X hi (TOD X.K C fh)) : PE X (.Subscript (.Name y p) (.Slice lo hi none p2) pos) (TD X.K C (dScrCut i fl fh)) :=
  PE.imp (pe_slice sl_list hx hl hu) fun σ H Q h => by
  obtain ⟨env, fs, E, h⟩ := h
  unfold dScrCut at h
  cases q : env[i]? with
  | none => rw [q] at h; exact h.elim
  | some s =>
    rw [q] at h
    cases s with
    | scr ns =>
      dsimp only at h
      obtain ⟨o, A, h1, h2, _, v, rfl, sc⟩ := E.sl.get q
      refine ⟨v, h1, env, fs, E, h.bind.imp fun l e2 H2 fs2 _ p2 s2 E2 g2 => ⟨e2, fs2, E2, g2.bind.imp fun u e3 H3 fs3 _ p3 s3 E3 g3 => ?_⟩⟩
      obtain ⟨a, rfl, sq⟩ := ((sc.im (E.im p2)).im (E2.im p3)).sq
      refine ⟨a, _, rfl, sq, fun p hp => ?_⟩
      obtain ⟨pp, E', r'⟩ := (ne_lst (K := X.K) hp (cut_fp (lo := l) (hi := u) (FpL.ints (ns := ns)))).out E3
      exact g3 _ fs3 pp .refl E' _ (r'.back fun a z => p3.there a (p2.there a z))
    | un => exact h.elim
    | d x => exact h.elim
    | ow w => exact h.elim
    | rng lo hi => exact h.elim
    | le w => exact h.elim
/-- {'cells': xs, 'mixed': m, 'draws': t} -/
def dDkNew (ks : DkK) (fc fm ft : De) : De := fun env => (fc env).bind fun r1 e1 => (fm e1).bind fun r2 e2 => (ft e2).bind fun r3 e3 => match r1, r2, r3 with
  | .ow (.lst xs), .d (.int m), .d (.int t) => (match ints? xs with
    | some cs => if okK ks = true then .ok (.ow (.deck ks cs m t)) e3 else .bad
    | none => .bad)
  | _, _, _ => .bad
theorem merge3 (h : okK ks = true) {c : Addr} {m t : Int} : mergeK [] [((.inr ks.1 : Key), V.ref c), (.inr ks.2.1, .int m), (.inr ks.2.2, .int t)] = [((.inr ks.1 : Key), V.ref c), (.inr ks.2.1, .int m), (.inr ks.2.2, .int t)] := by
  obtain ⟨h1, h2, h3⟩ := okK_ne h
  simp [mergeK, putK, h1, h2, h3]
theorem de_dkNew {p1 p2 p3 : Pos} {z1 z2 z3 : Nat} (hc : PE X a (TD X.K C fc)) (hm : PE X b (TD X.K C fm)) (ht : PE X c (TD X.K C ft)) : PE X (.Dict [some (.Constant (.str ks.1) z1 p1), some (.Constant (.str ks.2.1) z2 p2), some (.Constant (.str ks.2.2) z3 p3)] [a, b, c] pos) (TD X.K C (dDkNew ks fc fm ft)) :=
  PE.imp (pe_disp (pps_cons pe_str hc (pps_cons pe_str hm (pps_cons pe_str ht pps_nil))) rfl rfl (by simp) (by simp)) fun σ H Q h => by
  obtain ⟨env, fs, E, h⟩ := h
  intro p hp
  have E0 := E.ex (Ex.new (o := .dK []) hp)
  have pn : p ∉ fs.flatten := E.notIn hp
  have h0 : After X.K C σ (upd H p (.dK [])) fs (dDkNew ks fc fm ft env) fun rv _ H' fs' => ∀ v, RvR X.K H σ H' fs' rv v → Q v H' := After.step h (.of_ex (Ex.new hp)) .refl
  refine ⟨env, fs, E0, h0.bind.imp fun r1 e1 H1 fs1 hq1 q1 s1 E1 g1 v1 w1 => ?_⟩
  refine ⟨e1, fs1, E1, g1.bind.imp fun r2 e2 H2 fs2 hq2 q2 s2 E2 g2 v2 w2 => ?_⟩
  refine ⟨e2, fs2, E2, g2.bind.imp fun r3 e3 H3 fs3 hq3 q3 s3 E3 g3 v3 w3 => ?_⟩
  have w1' := RvR.step E2 (RvR.step E1 w1 q2 s2) q3 s3
  match r1, r2, r3, g3, w1', w1, w2, w3 with
  | .ow (.lst xs), .d (.int m), .d (.int t), g3, w1', w1, w2, w3 =>
    cases hi : ints? xs with
    | none => dsimp only at g3; rw [hi] at g3; exact g3.elim
    | some cs =>
      dsimp only at g3
      rw [hi] at g3; dsimp only at g3
      by_cases ok : okK ks = true
      · rw [if_pos ok] at g3
        obtain ⟨A, ⟨l, us, rfl, rfl, e1, f1⟩, n1, n0⟩ := w1'
        have hl0 := n0 l (by simp)
        have lp : l ≠ p := fun z => by rw [z, upd_same] at hl0; cases hl0
        have hlH : H l = none := by rw [upd_ne lp] at hl0; exact hl0
        have e2 : H3 p = some (.dK []) := q3.keep _ _ (q2.keep _ _ (q1.keep _ _ upd_same pn (fun ps z => by cases z)) (fun z => pn (s1 p z)) (fun ps z => by cases z)) (fun z => pn (s1 p (s2 p z))) (fun ps z => by cases z)
        refine ⟨e2, [(.inr ks.1, .ref l), (.inr ks.2.1, .int m), (.inr ks.2.2, .int t)], ?_, by simp, ?_⟩
        · rw [show v2 = .int m from w2, show v3 = .int t from w3]; rfl
        rw [merge3 ok]
        have pn3 : p ∉ fs3.flatten := fun z => pn (s1 p (s2 p (s3 p z)))
        have E4 : ER X.K C e3 σ (upd H3 p (dkHO ks l m t)) fs3 := E3.updNew e2 rfl pn3 (E.fresh hp)
        have st : Stp fs.flatten H (upd H3 p (dkHO ks l m t)) := ⟨fun b o q n tb => by
            have nb : b ≠ p := fun z => by rw [z, hp] at q; cases q
            rw [upd_ne nb]
            exact q3.keep _ _ (q2.keep _ _ (q1.keep _ _ (by rw [upd_ne nb]; exact q) n tb) (fun z => n (s1 b z)) tb) (fun z => n (s1 b (s2 b z))) tb, fun b q => by
            by_cases z : b = p
            · rw [z, upd_same]; simp
            · rw [upd_ne z]; exact q3.there b (q2.there b (q1.there b (by rw [upd_ne z]; exact q)))⟩
        have eq : dDkNew ks fc fm ft env = .ok (.ow (.deck ks cs m t)) e3 := by
          unfold dDkNew
          rw [hq1]; dsimp only [Res.bind]
          rw [hq2]; dsimp only
          rw [hq3]; dsimp only
          rw [hi]; exact if_pos ok
        rw [eq] at h
        refine h _ fs3 st ((s3.trans s2).trans s1) E4 _ ⟨[p, l], ⟨p, l, rfl, rfl, Ne.symm lp, upd_same, by rw [upd_ne lp]; rw [e1, ints_v hi f1]⟩, fun d hd => ?_, fun d hd => ?_⟩
        · rcases List.mem_cons.mp hd with z | z
          · rw [z]; exact pn3
          · rw [List.mem_singleton.mp z]; exact n1 l (by simp)
        · rcases List.mem_cons.mp hd with z | z
          · rw [z]; exact hp
          · rw [List.mem_singleton.mp z]; exact hlH
      · rw [if_neg ok] at g3; exact g3.elim
end
end Dn

set_option Elab.async false
set_option linter.all false
set_option maxRecDepth 100000
set_option maxHeartbeats 4000000
namespace Dn
open PySem PySem.Spec PyProof.Rows L2
/-! ### f(e, .., k = e, ..) -/
def permL {α : Type} (π : List Nat) (d : α) (l : List α) : List α := π.map fun j => l.getD j d
theorem vals_getD : ∀ {vs : List V} {us : List Value} (j : Nat), Vals vs us → RelV (vs.getD j .non) (us.getD j .none)
  | _, _, j, .nil => rfl
  | _, _, 0, .cons r t => r
  | _, _, j + 1, .cons r t => by simpa using vals_getD j t
theorem vals_perm {vs : List V} {us : List Value} (h : Vals vs us) : ∀ π : List Nat, Vals (permL π .non vs) (permL π .none us)
  | [] => .nil
  | j :: π => .cons (vals_getD j h) (vals_perm h π)
/-- how a call with n positional values and the keywords ks binds, nothing by default -/
structure KB (K : PySem.W.Frag) (fd : FuncData) (ps ks : List Str) (n : Nat) (π : List Nat) : Prop where
  to : ∀ (s : Shared) (us ws : List Value), K.In s.heap → us.length = n → ws.length = ks.length → BindsTo s fd ⟨us, ks.zip ws⟩ (ps.zip (permL π .none (us ++ ws)))
theorem kb_of {K : PySem.W.Frag} {x qual : Str} {params : Arguments} {body : List Stmt} {scope : Scope} {kws : List (Str × V)} {f : Addr} {fd : FuncData} {ps ks : List Str} {n : Nat} {π : List Nat} (F : FunD K x qual params body scope [] kws f fd)
    (h : ∀ (kV doc pm : Value) (an : Option Addr) (cdv ct : Value) (us ws : List Value), us.length = n → ws.length = ks.length → bindArgs (PySem.W.fnOf x qual params body scope .none kV doc pm an cdv ct) ⟨us, ks.zip ws⟩ = pure (ps.zip (permL π .none (us ++ ws)))) : KB K fd ps ks n π := ⟨fun s us ws _ l1 l2 => by
  obtain ⟨oc, od, dV, kV, doc, pm, an, cdv, ct, osl, rfl, lk, hcd, hD, hK⟩ := F.ex
  rcases hD with ⟨_, rfl⟩ | ⟨e, _⟩
  · exact .of_eq (h kV doc pm an cdv ct us ws l1 l2)
  · exact absurd rfl e⟩
section
variable {K : PySem.W.Frag} {X : Cx} {C : Fr} {fr fk : DeL} {fe : De} {F : Fn} {H Hs : Hp} {σ : L2.St} {env : List Sl} {fs : List (List Addr)} {gd : Bool} {k np n : Nat} {f : Addr} {fd : FuncData} {ps ks : List Str} {π : List Nat} {x : Str} {p pos kpos : Pos} {e : Expr} {es : List Expr} {kws : List Keyword} {nm : Option Str}
theorem dk_nil : PK X [] (TAD X.K C dNil) := ⟨fun pos pins s σ H Q I h => pk_nil.run pos pins s σ H Q I (by
  obtain ⟨env, fs, E, h⟩ := h
  exact h H fs .refl .refl E [] rfl)⟩
theorem dk_cons (ha : PE X e (TD X.K C fe)) (hr : PK X kws (TAD X.K C fr)) : PK X (⟨nm, e, kpos⟩ :: kws) (TAD X.K C (dCons fe fr)) := ⟨fun pos pins s σ H Q I h => (pk_cons ha hr).run pos pins s σ H Q I (by
  obtain ⟨env, fs, E, h⟩ := h
  refine ⟨env, fs, E, h.bind.imp fun ra e1 H1 fs1 _ p1 s1 E1 h1 x rx => ?_⟩
  refine ⟨e1, fs1, E1, h1.bind.imp fun rs e2 H2 fs2 _ p2 s2 E2 h2 ws rw => ?_⟩
  exact h2 H2 fs2 .refl .refl E2 _ ⟨x, ws, rfl, RvR.step E1 rx p2 s2, rw.back p1.there⟩)⟩
theorem RvRL.step {H' : Hp} {fs' : List (List Addr)} (E : ER K C env σ H fs) (p : Stp fs.flatten H H') (s : Sub fs' fs) : ∀ {rs : List Rv} {vs : List V}, RvRL K Hs σ H fs rs vs → RvRL K Hs σ H' fs' rs vs
  | [], _, h => h
  | r :: rs, _, ⟨v, ws, e, h, t⟩ => ⟨v, ws, e, RvR.step E h p s, RvRL.step E p s t⟩
theorem RvRL.app : ∀ {rs zs : List Rv} {vs ws : List V}, RvRL K Hs σ H fs rs vs → RvRL K Hs σ H fs zs ws → RvRL K Hs σ H fs (rs ++ zs) (vs ++ ws)
  | [], _, _, _, h, q => by rw [show _ = ([] : List V) from h]; exact q
  | r :: rs, _, _, _, ⟨v, us, e, h, t⟩, q => by rw [e]; exact ⟨v, _, rfl, h, RvRL.app t q⟩
theorem RvRL.getD : ∀ {rs : List Rv} {vs : List V} (j : Nat), RvRL K Hs σ H fs rs vs → j < rs.length → RvR K Hs σ H fs (rs.getD j (.d .none)) (vs.getD j .non)
  | r :: rs, _, 0, ⟨v, us, e, h, t⟩, _ => by rw [e]; exact h
  | r :: rs, _, j + 1, ⟨v, us, e, h, t⟩, hj => by rw [e]; simpa using RvRL.getD j t (by simpa using hj)
theorem RvRL.perm {rs : List Rv} {vs : List V} (h : RvRL K Hs σ H fs rs vs) : ∀ π : List Nat, (π.all fun j => decide (j < rs.length)) = true → RvRL K Hs σ H fs (permL π (.d .none) rs) (permL π .non vs)
  | [], _ => rfl
  | j :: π, hp => by
    rw [List.all_cons, Bool.and_eq_true] at hp
    exact ⟨_, _, rfl, RvRL.getD j h (of_decide_eq_true hp.1), RvRL.perm h π hp.2⟩
def dCallK (np : Nat) (F : Fn) (n m : Nat) (π : List Nat) (fr fk : DeL) : De := fun env => (fr env).bind fun rs e1 => (fk e1).bind fun zs e2 => if rs.length = n ∧ zs.length = m ∧ (π.all fun j => decide (j < (rs ++ zs).length)) = true then callF np F (permL π (.d .none) (rs ++ zs)) e2 else .bad
theorem run_fnGK {pins : List (Addr × Obj)} {s : Shared} {Q : VK} {us ws : List Value} {vs zs : List V} {sp : Sp} {E : L2.St → XK} (FG : FnG gd X.prog X.w X.K X.mg X.base k f fd ps sp) (hr : Room k X.A) (hg : gd = true → X.A.guards = some []) (hb : KB X.K fd ps ks n π) (hx : PassesAt (L2.CX X.prog X.w) X σ (E σ))
    (I : Inv X pins σ H s) (r : Vals vs us) (rz : Vals zs ws) (l1 : us.length = n) (l2 : ws.length = ks.length) (h : sp (permL π .non (vs ++ zs)) H Q (E σ)) : wpAny (model X.prog X.w) X.A (call (.ref f) us (ks.zip ws)) (EP X pins σ Q) X.xe s := by
  refine wpAny_call (codeAny_mono (FG.run X.A X.stack s H ⟨us, ks.zip ws⟩ _ _ Q (E σ) hr hg I.env0 (hb.to s us ws I.kIn l1 l2) (vals_perm (r.append rz) π) h) fun r s' hq => ?_)
  cases r with
  | error e => exact hx pins H s e s' I hq
  | ok fl =>
    cases fl with
    | ret u => exact I.after hq
    | next => exact False.elim hq
    | brk => exact False.elim hq
    | cont => exact False.elim hq
theorem RvRL.len2 {rs : List Rv} {vs : List V} (h : RvRL K Hs σ H fs rs vs) : vs.length = rs.length := by
  induction rs generalizing vs with
  | nil => rw [show vs = [] from h]; rfl
  | cons r rs ih => obtain ⟨v, ws, e, _, q⟩ := h; rw [e, List.length_cons, List.length_cons, ih q]
/-- what stands behind the arguments of a call with keywords -/
theorem td_callK {Q : VK} (h : TD X.K C (dCallK np F n ks.length π fr fk) σ H Q) : TAD X.K C fr σ H fun vs H1 => TAD X.K C fk σ H1 fun zs H2 => vs.length = n ∧ zs.length = ks.length ∧ spD X.K C.T C.cls np F (permL π .non (vs ++ zs)) H2 Q (WE C.W σ) := by
  obtain ⟨env, fs, E, h⟩ := h
  refine ⟨env, fs, E, h.bind.imp fun rs e1 H1 fs1 _ p1 s1 E1 h1 vs rv => ⟨e1, fs1, E1, h1.bind.imp fun zs e2 H2 fs2 _ p2 s2 E2 h2 ws rw => ?_⟩⟩
  by_cases hc : rs.length = n ∧ zs.length = ks.length ∧ (π.all fun j => decide (j < (rs ++ zs).length)) = true
  · rw [if_pos hc] at h2
    refine ⟨rv.len2.trans hc.1, rw.len2.trans hc.2.1, ?_⟩
    exact sp_call E2 (((rv.step E1 p2 s2).app (rw.back p1.there)).perm π hc.2.2) (fun a z => p2.there a (p1.there a z)) h2
  · rw [if_neg hc] at h2; exact h2.elim
theorem de_callK (FG : FnG gd X.prog X.w X.K X.mg X.base k f fd ps (spD X.K C.T C.cls np F)) (hr : Room k X.A) (hg : gd = true → X.A.guards = some []) (tk : Takes X C.W) (hn : Gl X x) (hm : X.mg x = some (.ref f)) (hk : PySem.W.keepIn X.K (.ref f) = true) (hb : KB X.K fd ps ks n π)
    (ha : PA X (e :: es) (TAD X.K C fr)) (hkw : PK X kws (TAD X.K C fk)) (hall : (backToKw pos (keywordEach kws X.env)).all (·.1.isSome) = true := by rfl) (hks : (backToKw pos (keywordEach kws X.env)).filterMap (·.1) = ks := by rfl)
    (hdb : (x == ("__debug__" : Str)) = false := by decide) (he : starEach (e :: es) X.env = (false, eval e X.env) :: starEach es X.env := by rfl) (hpl : ((backTo pos (starEach (e :: es) X.env)).any (·.1) || (backToKw pos (keywordEach kws X.env)).any (·.1.isNone)) = false := by rfl) :
    PE X (.Call (.Name x p) (e :: es) kws pos) (TD X.K C (dCallK np F n ks.length π fr fk)) := ⟨fun pins s σ H Q I h => by
  refine wpAny_Call_Name_kw (ld_glob I hn hm ?_ hdb)
  refine PySem.W.callWith_KW (h₀ := X.base) I.ok.mod.kin hk hall (thn (ha.run pos pins s σ H _ I (td_callK h)) fun us s1 ⟨vs, H1, I1, r, q⟩ => ?_) hpl he
  refine thn (hkw.run pos pins s1 σ H1 _ I1 q) fun ws s2 ⟨zs, H2, I2, rz, l1, l2, q2⟩ => ⟨I2.kIn, ?_⟩
  rw [hks]
  exact run_fnGK (E := WE C.W) FG hr hg hb (passAt tk σ) I2 r rz (r.length.symm.trans l1) (rz.length.symm.trans l2) q2⟩
/-- f(k = e, ..), nothing by place -/
theorem de_callK0 (FG : FnG gd X.prog X.w X.K X.mg X.base k f fd ps (spD X.K C.T C.cls np F)) (hr : Room k X.A) (hg : gd = true → X.A.guards = some []) (tk : Takes X C.W) (hn : Gl X x) (hm : X.mg x = some (.ref f)) (hk : PySem.W.keepIn X.K (.ref f) = true) (hb : KB X.K fd ps ks 0 π)
    (hkw : PK X kws (TAD X.K C fk)) (hall : (backToKw pos (keywordEach kws X.env)).all (·.1.isSome) = true := by rfl) (hks : (backToKw pos (keywordEach kws X.env)).filterMap (·.1) = ks := by rfl)
    (hdb : (x == ("__debug__" : Str)) = false := by decide) (hpl : ((backTo pos (starEach [] X.env)).any (·.1) || (backToKw pos (keywordEach kws X.env)).any (·.1.isNone)) = false := by rfl) :
    PE X (.Call (.Name x p) [] kws pos) (TD X.K C (dCallK np F 0 ks.length π dNil fk)) := ⟨fun pins s σ H Q I h => by
  refine wpAny_Call_Name_kw (ld_glob I hn hm ?_ hdb)
  obtain ⟨env, fs, E, h⟩ := td_callK h
  have h' : TAD X.K C fk σ H fun zs H2 => ([] : List V).length = 0 ∧ zs.length = ks.length ∧ spD X.K C.T C.cls np F (permL π .non ([] ++ zs)) H2 Q (WE C.W σ) := h H fs .refl .refl E [] rfl
  refine PySem.W.callWith_KW0 (h₀ := X.base) I.ok.mod.kin hk hall (thn (hkw.run pos pins s σ H _ I h') fun ws s2 ⟨zs, H2, I2, rz, l1, l2, q2⟩ => ⟨I2.kIn, ?_⟩) hpl
  rw [hks]
  exact run_fnGK (us := []) (vs := []) (E := WE C.W) FG hr hg hb (passAt tk σ) I2 .nil rz rfl (rz.length.symm.trans l2) q2⟩
end
end Dn

set_option Elab.async false
set_option linter.all false
set_option maxRecDepth 100000
set_option maxHeartbeats 4000000
/-! ### errors of own classes over Exception, whose __init__ stores the thing -/
namespace Dx
open PySem PySem.W PySem.Calls PyProof.Rows PySem.HandSPX Builtin Builtin.ObjectAttr
def exTail : List Value := [.type "Exception", .type "BaseException", .type "object"]
/-- own classes, then Exception and what stands behind it -/
def ownEx : List Value → Bool
  | .ref _ :: r => ownEx r
  | l => l == exTail
theorem ownEx_ind {P : List Value → Prop} (h0 : P exTail) (h1 : ∀ c r, P r → P (.ref c :: r)) : ∀ l : List Value, ownEx l = true → P l := fun l => by
  induction l with
  | nil => intro e; exact absurd e (by decide)
  | cons v r ih =>
    intro e
    cases v with
    | ref c => exact h1 c r (ih e)
    | type n =>
      have z : (.type n :: r) = exTail := beq_iff_eq.mp e
      rw [z]; exact h0
    | _ =>
      have z := beq_iff_eq.mp (show ((_ :: r) == exTail) = true from e)
      exact Value.noConfusion (List.cons.inj z).1
theorem ownEx_pass (self : Value) (l : List Value) (h : ownEx l = true) : refuseLoop self "__setattr__" l = pure () :=
  ownEx_ind (P := fun l => refuseLoop self "__setattr__" l = pure ()) (F.store_Exception.passes self) (fun c r q => by rw [refuseLoop_ref]; exact q) l h
theorem ownEx_has (n : String) (l : List Value) (h : ownEx l = true) : l.contains (.type n) = exTail.contains (.type n) :=
  ownEx_ind (P := fun l => l.contains (.type n) = exTail.contains (.type n)) rfl (fun c r q => by rw [List.contains_cons, q]; rfl) l h
theorem ownEx_ne (l : List Value) (h : ownEx l = true) : l.isEmpty = false := ownEx_ind (P := fun l => l.isEmpty = false) rfl (fun _ _ _ => rfl) l h
section
variable {prog : Program} {w : World} {A : Around} {R : Result → Shared → Prop} {hp : Heap} {g : Array GenState} {d : Drawn} {t : Nat} {os : OsState}
/-- self.name = v, the first field: the error has no dict yet -/
theorem store1 {K : W.Frag} {name : Str} {tk : Tok} {v : Value} {x C : Addr} {fv : Array Value} {cd : ClassData} (kin : K.In hp) (hx : hp.get? x = some { cls := .ref C, data := .fields fv }) (hcd : W.clsIn K C = some cd) (hm : ownEx cd.mro = true) (hh : cd.hasDict = true) (ha : W.findIn K (.ref C) name = some none)
    (k : ∀ h' tk' dx, (∀ b o, b ≠ x → hp.get? b = some o → h'.get? b = some o) → hp.objs.size ≤ dx → dx ≠ x → h'.get? x = some { cls := .ref C, dict := some dx, data := .fields fv } → h'.Ns1 dx (fun y => if y = name then some v else none) → R (.ok (.ret .none)) ⟨h', g, d, tk', os⟩) :
    codeAny (model prog w) A (.call (.builtin "object.__setattr__") ⟨[.ref x, .str name tk, v], []⟩) R ⟨hp, g, d, t, os⟩ := by
  have at0 : W.InstAt hp x { cls := .ref C, data := .fields fv } C none := ⟨hx, rfl, rfl, trivial⟩
  have obj : cd.mro.contains (.type "object") = true := (ownEx_has "object" _ hm).trans (by decide +kernel)
  have apart : x ≠ hp.objs.size := Nat.ne_of_lt (Heap.lt_size hx)
  have inst : W.Looks (model prog w) hp (isInstance (.ref x) (.type "object")) true := at0.type.andThen (W.looks_mroIn kin (by unfold W.mroIn; rw [hcd, Option.bind_some, if_neg (by rw [ownEx_ne _ hm]; decide), obj]))
  refine codeAny_call_builtin F.store_object.slot.plain F.store_object.entry (@W.check_slot (model prog w) _ _ ⟨hp, g, d, t, os⟩ "object.__setattr__" "object" "__setattr__" (.ref x) [.str name tk, v] [] _ F.store_object.kind F.store_object.split inst (F.store_object.args (.ref x) (.str name tk) v) ?_)
  have l1 : W.Looks (model prog w) hp (mroOf (.ref C)) cd.mro := (W.looks_clsIn kin hcd).andThen .now
  have l2 : W.Looks (model prog w) hp (classData C) cd := W.looks_clsIn kin hcd
  rw [W.osa_eq, refuse_eq]; refine wpAny_bind (wpAny_bind (at0.type.at (wpAny_bind (l1.at ?_))))
  rw [ownEx_pass _ _ hm]; refine wpAny_pure (wpAny_bind (at0.type.at (wpAny_bind ((W.looks_findIn kin ha).at (wpAny_bind ((W.Looks.now : W.Looks (model prog w) hp (storeTaker? none) none).at ?_))))))
  show wpAny _ _ (storeInOwnDict (.ref x) (.ref C) (.str name tk) name v false) _ _ _
  obtain ⟨nm, bs, mro, ns, qn, hd, sn, sb, ab, col, del⟩ := cd
  dsimp only at hh; subst hh
  unfold storeInOwnDict ownDictForStores
  repeat (first | (with_reducible refine store_in_new ?_ ?_) | (with_reducible refine wpAny_loadPart_at hx ?_) | (with_reducible refine l2.at ?_) | wp_step)
  · exact ⟨_, #[], _, (Heap.get?_update_ne _ _ _ _ apart.symm).trans (Heap.get?_push_at rfl rfl), rfl, fun e he => absurd he (by simp), fun _ => rfl⟩
  intro h' tk' hn' hs
  have up : (hp.push { cls := .type "dict", data := .dict #[] }).get? x = some { cls := .ref C, data := .fields fv } := Heap.get?_push_of_some _ hx
  exact k h' tk' hp.objs.size (fun b o nb ho => (hs.2 b (Nat.ne_of_lt (Heap.lt_size ho))).trans ((Heap.get?_update_ne _ _ _ _ nb).trans (Heap.get?_push_of_some _ ho))) (Nat.le_refl _) apart.symm ((hs.2 x apart).trans (Heap.get?_update_self _ up rfl)) hn'
end
end Dx
namespace Dn
open PySem PySem.Spec PyProof.Rows L2
/-- what the written part says of such a class -/
structure ErrC (K : PySem.W.Frag) (C : Addr) : Prop where
  cls : ∃ nm q N bs bm sn sub ab col dd k0 k1 k2 k3 k5, K.lookup C = some (excClassObj nm q C N bs bm true sn sub ab col dd k0 k1 k2 k3 k5 "Exception.__new__") ∧ Dx.ownEx bm = true
  sa : PySem.W.findIn K (.ref C) "__setattr__" = some (some (.builtin "object.__setattr__"))
  no : PySem.W.findIn K (.ref C) "thing" = some none
  exC : PySem.W.subIn K (.ref C) (.type "BaseException") = some true
  tyC : PySem.W.typeIn K (.ref C) = some (.type "type")
  kC : PySem.W.keepIn K (.ref C) = true
section
variable {X : Cx} {pins : List (Addr × Obj)} {σ : L2.St} {H : Hp} {s : Shared} {a C dx : Addr} {y : V} {u : Value} {Q : Unit → Shared → Prop} {E : Value → Shared → Prop} {A : Around}
theorem thing_new (T : ErrC X.K C) (I : Inv X pins σ H s) (e : H a = some (exo a C none)) (ry : RelV y u)
    (k : ∀ dx s', H dx = none → dx ≠ a → Inv X pins σ (upd (upd H dx (exd dx [("thing", y)])) a (exo a C (some dx))) s' → Q () s') : wpAny (model X.prog X.w) A (setAttr (.ref a) "thing" u) Q E s := by
  obtain ⟨nm, q, N, bs, bm, sn, sub, ab, col, dd, k0, k1, k2, k3, k5, hC, hbm⟩ := T.cls
  have hcl : PySem.W.clsIn X.K C = some { name := nm, bases := bs, mro := .ref C :: bm, ns := N, qualname := q, hasDict := true, slotNames := sn, subclasses := sub, abstract := ab, collection := col, hasDel := false } := by unfold PySem.W.clsIn; rw [hC] <;> rfl
  obtain ⟨t1, ho⟩ := exo_at I.hok e
  obtain ⟨hp, g, d, t, os⟩ := s
  refine PySem.W.set_plain I.kIn (ox := { cls := .ref C, dict := none, data := .fields #[.ref t1, .none, .none, .none, .bool false, .none] }) (od := none) ⟨ho, rfl, rfl, trivial⟩ T.sa (Dx.store1 I.kIn ho hcl (show Dx.ownEx (.ref C :: bm) = true from hbm) rfl T.no fun h' tk' dx kp dn dne hx hn => ?_)
  have fresh : H dx = none := I.hok.fresh dn
  have ndx : ∀ {b : Addr} {o : Obj}, hp.get? b = some o → b ≠ dx := fun q => Nat.ne_of_lt (Nat.lt_of_lt_of_le (Heap.lt_size q) dn)
  have nax : ∀ {b : Addr}, H b = none → b ≠ a := fun n z => by rw [z, e] at n; cases n
  have U : Un X.fs [] H (upd (upd H dx (exd dx [("thing", y)])) a (exo a C (some dx))) hp h' := {
    keep := fun b o q n _ _ => kp b o (nax n) q
    slot := fun b o q n _ _ => ⟨o.slots, kp b o (nax n) q⟩
    free := fun b o q n _ => (upd_ne (nax n)).trans ((upd_ne (ndx q)).trans n)
    there := fun b o q _ => (Decidable.em (b = a)).elim (fun z => by subst z; exact ⟨_, hx⟩) fun z => ⟨o, kp b o z q⟩
    tups := fun b xs q => (upd_ne (at_ne e q exo_tup)).trans ((upd_ne (ne_of_none q fresh)).trans q)
    frzs := fun b o v q => (upd_ne (at_ne e q exo_frz)).trans ((upd_ne (ne_of_none q fresh)).trans q)
    tbls := fun b ps q => ⟨#[], by rw [upd_ne (at_ne e q exo_tbl), upd_ne (ne_of_none q fresh), q]; simp⟩ }
  refine k dx _ fresh dne (I.un (t' := tk') U fun b o q => ?_)
  by_cases z : b = a
  · subst z; rw [upd_same] at q; cases q; exact exo_ok hx
  rw [upd_ne z] at q
  by_cases z2 : b = dx
  · subst z2; rw [upd_same] at q; cases q; exact exd_ok hn (relO_put (fs := []) ry fun _ => True.intro)
  rw [upd_ne z2] at q
  refine (I.hok b o q).stay (fun c v hc w => kp c v (hc.elim (fun m => by rw [m]; exact z) fun m => at_ne e m exo_own) w) (fun c hc => ?_) fun c xs hc => ?_
  · exact (upd_ne (at_ne e hc exo_own)).trans ((upd_ne (ne_of_none hc fresh)).trans hc)
  · exact (upd_ne (at_ne e hc exo_tup)).trans ((upd_ne (ne_of_none hc fresh)).trans hc)
/-- the promise of __init__(self, thing) -/
def spThing (K : PySem.W.Frag) : Sp := fun vs H Q _ => ∃ (a C : Addr) (y : V), vs = [.ref a, y] ∧ ErrC K C ∧ H a = some (exo a C none) ∧ ∀ dx, H dx = none → dx ≠ a → Q .non (upd (upd H dx (exd dx [("thing", y)])) a (exo a C (some dx)))
def tThing (K : PySem.W.Frag) (to te : TE) : TS := fun D σ H => te σ H fun y H1 => to σ H1 fun x H2 => ∃ a C : Addr, x = .ref a ∧ ErrC K C ∧ H2 a = some (exo a C none) ∧ ∀ dx, H2 dx = none → dx ≠ a → D.nx σ (upd (upd H2 dx (exd dx [("thing", y)])) a (exo a C (some dx)))
theorem ps_thing {o e : Expr} {to te : TE} {p' pos : Pos} (ho : PE X o to) (he : PE X e te) (hs : swapsWith e (some (.Attribute o "thing" p')) pos.line X.env = pure false := by rfl) : PS X (.Assign [.Attribute o "thing" p'] e pos) (tThing X.K to te) := ⟨fun pins s σ H D I h =>
  plainObj_wpAny_Assign_Attribute (thn (he.run pins s σ H _ I h) fun v s1 ⟨y, H1, I1, r1, q1⟩ => thn (ho.run pins s1 σ H1 _ I1 q1) fun u s2 ⟨x, H2, I2, r2, a, C, ex, T, ea, q⟩ => by
    subst ex
    obtain rfl : u = Value.ref a := r2
    exact thing_new T I2 ea r1 fun dx s' n ne J => ⟨σ, _, J, q dx n ne⟩) hs⟩
end
/-- the def __init__(self, thing): self.thing = thing -/
theorem thing_fn {CX : CXT} {P : Program} {w : World} {K : PySem.W.Frag} {mg : Str → Option Value} {base : Heap} {qual : Str} {st : Stmt} {f : Addr} {fd : FuncData} {p1 p2 p3 p4 : Pos} (F : Fun K "__init__" qual st f fd) (S : FnScope ["self", "thing"] ["self", "thing"] (defScope st))
    (hb : defBody st = [.Assign [.Attribute (.Name "self" p1) "thing" p2] (.Name "thing" p3) p4]) : FnOk P w K mg base CX 1 f fd ["self", "thing"] (spThing K) := by
  obtain ⟨oc, od, kV, doc, pm, an, cdv, ct, osl, rfl, lk, hcd⟩ := F.ex
  refine fn_of lk hcd S (fun vs H Q E h => by obtain ⟨a, C, y, rfl, _⟩ := h; rfl) fun A outer s H vs Q E hr h => ?_
  obtain ⟨a, C, y, rfl, T, ea, q⟩ := h
  rw [hb]
  refine ⟨tThing K (tVar 0) (tVar 1), pss_one (ps_thing (pe_var rfl (vis_par S (by simp))) (pe_var rfl (vis_par S (by simp)))), y, rfl, .ref a, rfl, a, C, rfl, T, ea, q⟩
section
variable {X : Cx} {C : Fr} {Ca fI : Addr} {k : Nat} {fd : FuncData} {x : Str} {p pos pos' : Pos} {e : Expr} {ta : TA} {f : De}
def tErr (Ca : Addr) (ta : TA) : L2.St → Hp → XK → Prop := fun σ H Q => ta σ H fun vs H1 => ∃ y, vs = [y] ∧ ∀ d, H1 d = none → Q (.ref Ca) (some d) (upd H1 d (.xd [("thing", y)]))
/-- X(e) -/
theorem pmk_err (T : ErrC X.K Ca) (iC : PySem.W.findIn X.K (.ref Ca) "__init__" = some (some (.ref fI))) (tI : PySem.W.typeIn X.K (.ref fI) = some (.type "function")) (F1 : FnOk X.prog X.w X.K X.mg X.base CX0 k fI fd ["self", "thing"] (spThing X.K)) (hr : Room (k + 1) X.A) (hb : Binds X.K fd ["self", "thing"] [])
    (hn : Gl X x) (hm : X.mg x = some (.ref Ca)) (ha : PA X [e] ta) (hdb : (x == ("__debug__" : Str)) = false := by decide) (he : starEach [e] X.env = (false, eval e X.env) :: starEach [] X.env := by rfl) (hpl : (backTo pos (starEach [] X.env)).any (·.1) = false := by rfl) :
    PMk X (.Call (.Name x p) [e] [] pos) (tErr Ca ta) := by
  intro pins s σ H Q I h
  obtain ⟨nm, q, N, bs, bm, sn, sub, ab, col, dd, k0, k1, k2, k3, k5, hC, hbm⟩ := T.cls
  refine wpAny_Call_Name_kw (ld_glob I hn hm ?_ hdb)
  refine PySem.W.callWith_K (h₀ := X.base) I.ok.mod.kin T.kC (thn (ha.run pos pins s σ H _ I h) fun us s1 ⟨vs, H1, I1, r1, y, ev, q1⟩ => ⟨I1.kIn, ?_⟩) he hpl
  subst ev
  show wpAny _ _ (call (.ref Ca) us) _ _ _
  obtain ⟨hp, g, dr, tk, os⟩ := s1
  have up : hp.objs.size ≤ hp.objs.size + 1 := Nat.le_succ _
  have hn1 : H1 (hp.objs.size + 1) = none := I1.hok.fresh up
  have kp : ∀ b o, hp.get? b = some o → ((hp.push (PySem.W.kdv_tup us)).push (PySem.HandSPX.excO Ca hp.objs.size)).get? b = some o := fun b o e => Heap.get?_push_of_some _ (Heap.get?_push_of_some _ e)
  have at1 : ((hp.push (PySem.W.kdv_tup us)).push (PySem.HandSPX.excO Ca hp.objs.size)).get? (hp.objs.size + 1) = some (PySem.HandSPX.excO Ca hp.objs.size) := by heap_get
  have I2 : Inv X pins σ (upd H1 (hp.objs.size + 1) (exo (hp.objs.size + 1) Ca none)) ⟨(hp.push (PySem.W.kdv_tup us)).push (PySem.HandSPX.excO Ca hp.objs.size), g, dr, tk, os⟩ := I1.laid (t' := tk) (o := exo (hp.objs.size + 1) Ca none) kp up (exo_ok at1)
  have r2 : Vals [V.ref (hp.objs.size + 1), y] (Value.ref (hp.objs.size + 1) :: us) := .cons rfl r1
  have l1 : (Value.ref (hp.objs.size + 1) :: us).length = 2 := r2.length.symm
  have l2 : us.length ≤ sizeLine := by rw [List.length_cons] at l1; rw [sizeLine_eq]; omega
  have hb' := hb ⟨(hp.push (PySem.W.kdv_tup us)).push (PySem.HandSPX.excO Ca hp.objs.size), g, dr, tk, os⟩ (Value.ref (hp.objs.size + 1) :: us) I2.kIn (by rw [List.append_nil]; exact l1)
  rw [List.append_nil] at hb'
  refine wpAny_call (PySem.HandSPX.call_own PySem.F.excBase_Exception (fun n => Dx.ownEx_has n bm hbm) (I1.kIn _ _ hC) (PySem.W.looks_findIn I1.kIn iC) (fun self => PySem.W.bind_fn I1.kIn self tI) l2
    (codeAny_mono (F1.run _ X.stack _ _ ⟨Value.ref (hp.objs.size + 1) :: us, []⟩ _ _ (fun v H2 => v = .non ∧ ∃ d, H1 d = none ∧ d ≠ hp.objs.size + 1 ∧ H2 = upd (upd (upd H1 (hp.objs.size + 1) (exo (hp.objs.size + 1) Ca none)) d (exd d [("thing", y)])) (hp.objs.size + 1) (exo (hp.objs.size + 1) Ca (some d))) (fun _ _ _ => False) (hr.make Ca us []) (I2.env0.make Ca us []) hb' r2
      ⟨_, Ca, y, rfl, T, upd_same, fun d hd nd => ⟨rfl, d, by rw [upd_ne nd] at hd; exact hd, nd, rfl⟩⟩) fun r s' hq' => ?_))
  cases r with
  | error er => exact hq'.elim
  | ok fl =>
    cases fl with
    | ret u =>
      obtain ⟨v, H2, os2, bare2, un2, hok2, rv, ev, d, hd1, nd, e2⟩ := hq'
      subst ev
      subst e2
      obtain ⟨h2, g2, d2, t2, os'⟩ := s'
      refine ⟨rv, mk_end (raises_own T.exC T.tyC) I1 up kp un2 hok2 os2 bare2 upd_same (by rw [upd_ne nd, upd_same]) hd1 ?_⟩
      have z : upd (del (upd (upd (upd H1 (hp.objs.size + 1) (exo (hp.objs.size + 1) Ca none)) d (exd d [("thing", y)])) (hp.objs.size + 1) (exo (hp.objs.size + 1) Ca (some d))) (hp.objs.size + 1)) d (.xd [("thing", y)]) = upd H1 d (.xd [("thing", y)]) := by
        funext b
        by_cases z1 : b = d
        · rw [z1, upd_same, upd_same]
        · rw [upd_ne z1, upd_ne z1]
          by_cases z2 : b = hp.objs.size + 1
          · rw [z2, del_same, hn1]
          · rw [del_ne z2, upd_ne z2, upd_ne z1, upd_ne z2]
      rw [z]
      exact q1 d hd1
    | next => exact False.elim hq'
    | brk => exact False.elim hq'
    | cont => exact False.elim hq'
def dRaise (c : Str) (f : De) : Ds := fun env => sOf (f env) fun r e => match r with
  | .d x => .exc c x e
  | _ => .bad
/-- raise X(e) -/
theorem ds_raise {c : Str} (T : ErrC X.K Ca) (hcl : C.cls c = Ca) (iC : PySem.W.findIn X.K (.ref Ca) "__init__" = some (some (.ref fI))) (tI : PySem.W.typeIn X.K (.ref fI) = some (.type "function")) (F1 : FnOk X.prog X.w X.K X.mg X.base CX0 k fI fd ["self", "thing"] (spThing X.K)) (hr : Room (k + 1) X.A) (hb : Binds X.K fd ["self", "thing"] [])
    (hc : X.calm = true) (tk : Takes X C.W) (hn : Gl X x) (hm : X.mg x = some (.ref Ca)) (ha : PE X e (TD X.K C f)) (hdb : (x == ("__debug__" : Str)) = false := by decide) (he : starEach [e] X.env = (false, eval e X.env) :: starEach [] X.env := by rfl) (hpl : (backTo pos (starEach [] X.env)).any (·.1) = false := by rfl) :
    PS X (.Raise (some (.Call (.Name x p) [e] [] pos)) none pos') (TSD X.K C (dRaise c (dSto f))) := PS.imp (ps_raise hc tk (pmk_err T iC tI F1 hr hb hn hm (pa_cons (de_sto ha) pa_nil he) hdb he hpl)) fun D σ H h => by
  obtain ⟨env, fs, E, h⟩ := h
  refine ⟨env, fs, E, (SAft.of E h).imp fun r e1 H1 fs1 _ p1 s1 E1 g v rv => ⟨v, rfl, fun d hd => ?_⟩⟩
  match r, g, rv with
  | .d x, g, rv =>
    have ex : Ex H1 (upd H1 d (.xd [("thing", v)])) := Ex.new hd
    rw [← hcl]
    exact g d v σ _ fs1 ex.im (E1.ex ex) upd_same (Fp.im ex.im _ _ rv)
end
end Dn

set_option Elab.async false
set_option linter.all false
set_option maxRecDepth 100000
set_option maxHeartbeats 4000000
/-! ### isinstance of a caught error that has its dict -/
namespace Dx
open PySem PySem.W PySem.Spec PySem.Calls PyProof.Rows
section
variable {prog : Program} {w : World} {A : Around} {E : Value → Shared → Prop} {s : Shared} {K : Frag} {x C : Addr} {ox : Obj} {od : Option Obj}
theorem found_data {nm : Str} {p q : Value} (h1 : (clsIn K C).isSome = true) (h2 : findIn K (.ref C) nm = some (some p)) (h3 : specialIn K p "__get__" = some (some q)) (h4 : takesIn K p = some true) : findObj K C od nm = some (.bind q p) := by
  obtain ⟨cd, e⟩ := Option.isSome_iff_exists.mp h1
  unfold findObj; rw [e, Option.bind_some, h2, Option.bind_some]; simp [h3, h4]
theorem ask_class {R : Option Value → Shared → Prop} (T : L2.ExcC K C) (kin : K.In s.heap) (I : InstAt s.heap x ox C od) (k : R (some (.ref C)) { s with toks := s.toks + 1 }) : wpAny (model prog w) A (getAttr? (.ref x) "__class__") R E s := by
  have fd : findObj K C od "__class__" = some (.bind (.builtin "getset_descriptor.__get__") (.builtin "object.__class__")) := found_data (by obtain ⟨c, e, _⟩ := any_some T.hd; rw [e]; rfl) T.ha T.hn T.ht
  obtain ⟨hp, g, d, t, os⟩ := s
  have ty := I.type (M := model prog w)
  have g1 := looks_findIn (M := model prog w) kin T.hg
  have g2 := looks_findIn (M := model prog w) kin T.hk
  have g3 := looks_find (M := model prog w) kin I fd
  have inst : Looks (model prog w) hp (isInstance (.ref x) (.type "BaseException")) true := ty.andThen (looks_subIn kin T.hs)
  have z1 : (Value.builtin "BaseException.__getattribute__" == Value.builtin "object.__getattribute__") = false := by decide +kernel
  have z2 : (onTheHeap (Value.ref C) && Value.builtin "BaseException.__getattribute__" == Value.builtin "object.__getattribute__") = false := by rw [z1]; rfl
  unfold getAttr? getAttrBy? getAttrBy; refine wpAny_bind (wpAny_mkText (wpAny_bind (wpAny_attempt (wpAny_holding (wpAny_bind (ty.at (wpAny_bind (g1.at ?_))))))))
  show wpAny _ _ (if (onTheHeap (Value.ref C) && Value.builtin "BaseException.__getattribute__" == Value.builtin "object.__getattribute__") = true then _ else _) _ _ _
  rw [z2, if_neg Bool.false_ne_true]; unfold getAttrByItsOwn hookBefore
  refine wpAny_bind ?_; rw [if_pos (show onTheHeap (Value.ref C) = true from rfl)]
  refine g2.at (wpAny_bind (wpAny_attempt (wpAny_holding ?_))); unfold callGetattribute
  rw [show (false && onTheHeap (Value.builtin "BaseException.__getattribute__")) = false from rfl, if_neg Bool.false_ne_true]; unfold boundAndCalled
  rw [F.excAttr_ValueError.ga.bind (.ref x)]; refine wpAny_bind (wpAny_pure ?_)
  show wpAny _ _ (call (.builtin "BaseException.__getattribute__") [.ref x, .str "__class__" t]) _ _ _
  refine wpAny_call (codeAny_call_builtin F.excAttr_ValueError.ga.plain F.entry_bexc_ga (@check_slot (model prog w) _ _ ⟨hp, g, d, t + 1, os⟩ "BaseException.__getattribute__" "BaseException" "__getattribute__" (.ref x) [.str "__class__" t] [] _ (by decide +kernel) (by decide +kernel) inst (F.args_bexc_ga (.ref x) (.str "__class__" t)) ?_))
  unfold Builtin.«object.__getattribute__»; refine wpAny_bind (wpAny_of_eq (a := ((Value.ref x : Value), [Value.str "__class__" t])) (by first | rfl | (simp only [slotArgs]; rfl)) (wpAny_bind (wpAny_pure (wpAny_bind (ty.at (wpAny_bind (g3.at ?_)))))))
  show wpAny _ _ (holding [Value.builtin "object.__class__"] (call (.builtin "getset_descriptor.__get__") [.builtin "object.__class__", .ref x, .ref C]) >>= ret) _ _ _
  refine wpAny_bind (wpAny_holding (wpAny_call (class_get (s := ⟨hp, g, d, t + 1, os⟩) kin I T.hm (wpAny_pure (?_ : wpAny _ _ (handedOut (.ref C)) _ _ _)))))
  rw [handedOut_of (v := .ref C) rfl]
  first
    | exact wpAny_pure (wpAny_pure k)
    | exact wpAny_pure k
    | exact wpAny_pure (wpAny_bind (wpAny_pure (wpAny_pure k)))
theorem kitx_err (T : L2.ExcC K C) : KitX K (.ref x) (.ref C) (fun h => InstAt h x ox C od) where
  ty := fun _ _ _ I => I.type
  it := fun _ _ kin _ => by
    obtain ⟨c, e, _⟩ := any_some T.hd
    unfold clsIn at e; split at e
    · rename_i e2; exact fun A' Q' E' s' k q => by unfold isType loadHead; exact wpAny_bind (wpAny_loadPart (k _ _ (kin _ _ e2)) (wpAny_pure q))
    · cases e
  ne := fun h tp dd its n sl kin htp => Bool.eq_false_iff.mpr fun q => by
    obtain ⟨c, e, _⟩ := any_some T.hd
    have z : C = tp := Value.ref.inj (beq_iff_eq.mp q)
    subst z; unfold clsIn at e; split at e
    · rename_i e2; have y := (kin _ _ e2).symm.trans htp; cases y
    · cases e
  ca := fun kin I k => ask_class T kin I k
end
end Dx
namespace Dn
open PySem PySem.Spec PyProof.Rows L2
/-- isinstance(e, c), e the error that the suite holds -/
theorem call_isErr {X : Cx} {a C dd : Addr} {oe : Obj} {pn : List (Addr × Obj)} (T : ExcC X.K C) (hz : Zc (.ref C) (some dd) oe) (hf : ∃ vs, oe.data = .fields vs) : CallR (X.suite a ((a, oe) :: pn)) (.builtin "isinstance") (fun xs H Q => (∃ fs, H dd = some (.xd fs)) ∧ rIsE X.K C a xs H Q) := by
  intro pins s σ H xs us Q I r h
  obtain ⟨⟨fs, hd⟩, c, cv, b, rfl, hcv, e, q⟩ := h
  obtain ⟨u1, u2, rfl, r1, r2⟩ := vals2 r
  cases (show u1 = Value.ref a from r1)
  have ec := hcv _ r2
  subst ec
  obtain ⟨ha, _⟩ := I.pin (a, oe) (List.mem_append.mpr (.inl List.mem_cons_self))
  obtain ⟨vs, hv⟩ := hf
  obtain ⟨mA, hns, _⟩ := (show ObjOk X.prog X.w H s.heap dd (.xd fs) from I.hok dd _ hd)
  obtain ⟨o2, ho, _⟩ := lookIn_ns hns
  have J : PySem.W.InstAt s.heap a oe C (some o2) := ⟨ha, hz.1, by unfold PySem.W.notCls; rw [hv] <;> rfl, by rw [hz.2]; exact ho⟩
  exact PySem.W.kia_one (Dx.kitx_err T) I.kIn J e (fun z => nomatch z) fun tk => ⟨.bl b, H, I.kept (t' := tk) fun _ _ z => z, rfl, q⟩
/-! ### try: .. except X as e: .. except Y as e: .. -/
/-- what the clauses wish of an exception, one after the other; slot i is the name's -/
def wMA (K : PySem.W.Frag) (i : Nat) (Wout : WX) (D : Ends) : List (Value × (Addr → Value → Option Addr → TS)) → WX
  | [] => Wout
  | (c, ts) :: r => fun cls d σ H => ∃ b, PySem.W.exmOne K cls c = some b ∧ (b = true → ∀ a, H a = none → ts a cls d { nx := fun σ' H' => D.nx (σ'.set i none) H', rt := D.rt, bk := fun σ' H' => D.bk (σ'.set i none) H', ct := fun σ' H' => D.ct (σ'.set i none) H' } (σ.set i (some (.ref a))) H) ∧ (b = false → wMA K i Wout D r cls d σ H)
inductive HdsA (X : Cx) (n : Str) : List ExceptHandler → List (Value × (Addr → Value → Option Addr → TS)) → Prop
  | nil : HdsA X n [] []
  | cons {x : Str} {c : Value} {ts : Addr → Value → Option Addr → TS} {b₀ : Stmt} {suite : List Stmt} {np pos' : Pos} {hds : List ExceptHandler} {l : List (Value × (Addr → Value → Option Addr → TS))} (hc : Names X x c)
      (hsu : ∀ (a : Addr) (oe : Obj) (cls : Value) (d : Option Addr) (pn : List (Addr × Obj)), Zc cls d oe → (∃ vs, oe.data = .fields vs) → PSs (X.suite a ((a, oe) :: pn)) (b₀ :: suite) (ts a cls d)) (r : HdsA X n hds l) :
      HdsA X n (.ExceptHandler (some (.Name x np)) (some n) (b₀ :: suite) pos' :: hds) ((c, ts) :: l)
section
variable {X : Cx} {n : Str} {i : Nat} {body : List Stmt} {h₀ : ExceptHandler} {hds : List ExceptHandler} {l : List (Value × (Addr → Value → Option Addr → TS))} {pos : Pos} {tb : WX → TS} {Wout : WX}
theorem ps_tryA (hs : X.stack = X.env :: X.outer) (hf : X.env.frame = some X.env.locals) (hN : X.N.Nodup) (hi : X.N[i]? = some n) (hln : X.env.kindOf n = some .local) (tk : Takes X Wout)
    (hb : ∀ (W : WX) (pn : List (Addr × Obj)) (xe : Value → Shared → Prop), Takes (X.tr pn xe) W → PassesOwn (model X.prog X.w) X.A X.env xe → PSs (X.tr pn xe) body (tb W)) (hh : HdsA X n (h₀ :: hds) l) :
    PS X (.Try body (h₀ :: hds) [] [] pos) (fun D σ H => tb (wMA X.K i Wout D l) D σ H) := ⟨fun pins s σ H D I h => by
  have ok := I.ok
  have fr : X.A.frames = some (X.env :: X.outer) := ok.frames.trans (by rw [hs])
  have loc : Loc X.env.scope n := .inl hln
  refine wpAny_Try_except (wpAny_mono ((hb (wMA X.K i Wout D l) (X.pn ++ pins) (fun e t1 => wpAny (model X.prog X.w) X.A (noteFrame e X.env) (fun _ t2 => wpAny (model X.prog X.w) X.A (setFlight e none) (fun _ t3 => wpAny (model X.prog X.w) X.A (handleBy e X.env (h₀ :: hds)) (SP X pins D) X.xe t3) X.xe t2) X.xe t1) (fun u s' xx => ?_) PassesOwn.looking).run [] s σ H D (I.toTry _) h) (fun f s1 hsp => ?_) (fun e s1 he => he))
  · obtain ⟨a, B, sI, pins', σ', H', cls, d, rfl, J', nb, up, sky, na, os, ag, w⟩ := xx
    have J : Inv X pins σ' H' sI := J'.ofTry ok
    have sky2 : Sky B (X.env :: X.outer) a (Zc cls d) X.env.locals s'.heap := hs ▸ sky
    show wpAny (model X.prog X.w) X.A (noteFrame (.ref a) X.env) _ _ _
    refine Sky.land Zc.steady fr hf sky2 fun g3 fl3 up3 => ?_
    have J3 : Inv X pins σ' H' { s' with heap := g3 } := J.landed nb fl3.1 (up.trans up3) os ag
    obtain ⟨o3, v3, e3, z3, d3⟩ := fl3.there
    have out : ∀ {g : Heap} {o : Obj} {vs : Array Value}, g.FunFrames B (X.env :: X.outer) → g.get? a = some o → o.data = .fields vs → a ∉ frs (X.env :: X.outer) := fun ff e dd hm => by
      obtain ⟨_, o', e', nf⟩ := ff.mem hm
      rw [e] at e'; cases e'; exact nf _ dd
    have nfr := out fl3.2.2.1 e3 d3
    have nL : a ≠ X.env.locals := fun z => nfr (List.mem_filterMap.mpr ⟨X.env, List.mem_cons_self, hf.trans (by rw [z])⟩)
    have nF : a ∉ X.fs := fun hm => by
      obtain ⟨e, he, q⟩ := List.mem_filterMap.mp hm
      exact nfr (List.mem_filterMap.mpr ⟨e, List.mem_cons_of_mem _ he, q⟩)
    have S3 := J3.suite e3 d3 na nL nF
    have go : ∀ {hds' : List ExceptHandler} {l' : List (Value × (Addr → Value → Option Addr → TS))}, HdsA X n hds' l' → wMA X.K i Wout D l' cls d σ' H' → wpAny (model X.prog X.w) X.A (handleBy (.ref a) X.env hds') (SP X pins D) X.xe { s' with heap := g3 } := fun hk => by
      induction hk with
      | nil =>
        intro w
        obtain ⟨k1, k2, k3, oe, vs, T, oT, ts', he, hz, hd, h1, hr⟩ := id fl3
        refine wpAny_handleBy_nil ?_; unfold PySem.passOn
        refine wpAny_bind (wpAny_field he hd h1 ?_); rw [if_neg (show ¬ ((Value.ref T == Value.none) = true) from by simp)]
        have fin : wpAny (model X.prog X.w) X.A (setFlight (.ref a) X.env.frame) (fun _ t4 => wpAny (model X.prog X.w) X.A (throw (.ref a) : Sem Flow) (SP X pins D) X.xe t4) X.xe { s' with heap := g3 } := by
          rw [hf]; exact HandSPX.setFlight_upZ fl3 fun g4 hh4 up4 => wpAny_throw (tk _ _ ⟨a, B, sI, pins, σ', H', cls, d, rfl, J, nb, (up.trans up3).trans up4, .inr (.inr (by rw [hs]; exact hh4)), na, os, ag, w⟩)
        first
          | exact wpAny_bind (wpAny_pure (wpAny_bind fin))
          | exact wpAny_bind fin
      | @cons x c ts b₀ suite np pos' hds2 l2 hc hsu r ih =>
        rintro ⟨b, hb1, yes, no⟩
        refine wpAny_handleBy_cons (codeAny_handlers_test ?_) (by intro q; cases q)
        have lt : PySem.W.Looks (model X.prog X.w) g3 (typeOf (.ref a)) cls := fun A Q E s k q => wpAny_typeOf_ref (k _ _ e3) (by rw [z3.1]; exact q)
        have lm := PySem.W.exm_one (M := model X.prog X.w) J3.kIn lt hb1
        have tst : ∀ {Q : Value → Shared → Prop} {E : Value → Shared → Prop}, Q c { s' with heap := g3 } → wpAny (model X.prog X.w) (X.A.mark (some (.ref a))) (eval (.Name x np) X.env) Q E { s' with heap := g3 } := fun q => by
          obtain ⟨hg, hdb, hm | ⟨hm, hv, hnn⟩⟩ := hc
          · exact ld_glob (X := X.suite a ((a, o3) :: (X.pn ++ pins))) S3 hg hm q hdb
          · exact ld_blt (X := X.suite a ((a, o3) :: (X.pn ++ pins))) S3 hg hm hv q hnn hdb
        refine tst (lm.here ?_)
        cases b with
        | false => exact (show wpAny _ X.A (handleBy (.ref a) X.env hds2) _ _ _ from ih (no rfl))
        | true =>
          refine codeAny_handlers_suite_as (HandSPX.lands_againZ fl3 fun g4 fl4 up4 => ?_)
          have J4 : Inv X pins σ' H' { s' with heap := g4 } := J.landed nb fl4.1 ((up.trans up3).trans up4) os ag
          obtain ⟨o4, v4, e4, z4, d4⟩ := fl4.there
          refine store_ok (X := X.suite a ((a, o4) :: (X.pn ++ pins))) (v := .ref a) (J4.suite e4 d4 na nL nF) hN hi loc rfl (fun s5 S5 => wpAny_mono ((hsu a o4 cls d (X.pn ++ pins) z4 ⟨_, d4⟩).run [] s5 _ H' _ S5 (yes rfl a na)) (fun f s6 hsp => ?_) (fun _ _ z => False.elim z)) (.inr hln)
          have off : ∀ {σ6 : L2.St} {H6 : Hp} {Q : Shared → Prop}, Inv (X.suite a ((a, o4) :: (X.pn ++ pins))) [] σ6 H6 s6 → (∀ s7, Inv X pins (σ6.set i none) H6 s7 → Q s7) → wpAny (model X.prog X.w) X.A (do bindName X.env n .none; unbindBehindTheSuite X.env n pos') (fun _ s7 => Q s7) X.xe s6 := fun S6 hq => gone_ok (S6.unsuite ok) hN hi hln hq
          cases f with
          | ret u => obtain ⟨v6, σ6, H6, S6, r6, q6⟩ := hsp; exact off S6 fun s7 J7 => ⟨_, _, _, J7, r6, q6⟩
          | _ => obtain ⟨σ6, H6, S6, q6⟩ := hsp; exact off S6 fun s7 J7 => ⟨_, _, J7, q6⟩
    exact go hh w
  · cases f with
    | next => obtain ⟨σ', H', J', q⟩ := hsp; exact wpAny_execs_nil ⟨σ', H', J'.ofTry ok, q⟩
    | ret u => obtain ⟨v, σ', H', J', r, q⟩ := hsp; exact ⟨v, σ', H', J'.ofTry ok, r, q⟩
    | _ => obtain ⟨σ', H', J', q⟩ := hsp; exact ⟨σ', H', J'.ofTry ok, q⟩⟩
end
end Dn

set_option Elab.async false
set_option linter.all false
set_option maxRecDepth 100000
set_option maxHeartbeats 4000000
namespace Dn
open PySem PySem.Spec PyProof.Rows L2
def Fr.w (C : Fr) (W : WX) : Fr := { C with W := W }
section
variable {K : PySem.W.Frag} {X : Cx} {C : Fr} {g : Ds} {σ : L2.St} {H H' : Hp} {env : List Sl} {fs : List (List Addr)} {D : Ends} {n : Str} {i : Nat}
theorem ER.toW (E : ER K C env σ H fs) (W : WX) : ER K (C.w W) env σ H fs := ⟨E.sl, E.nd, E.own, E.kept, E.there, E.tabs, E.le, E.lf⟩
theorem ER.ofW {W : WX} (E : ER K (C.w W) env σ H fs) : ER K C env σ H fs := ⟨E.sl, E.nd, E.own, E.kept, E.there, E.tabs, E.le, E.lf⟩
/-- what a clause's suite says: it hands back hS of the thing -/
def tSu (K : PySem.W.Frag) (Ca : Addr) (i : Nat) (hS : PyData → Option Rv) (a : Addr) (cls : Value) (d : Option Addr) : TS := fun D σ H => cls = .ref Ca ∧ ∃ dd v x r, d = some dd ∧ H dd = some (.xd [("thing", v)]) ∧ Fp K H x v ∧ σ[i]? = some (some (.ref a)) ∧ hS x = some r ∧ ∀ v' H', Ne K H H' r v' → D.rt v' H'
abbrev Hs := List (Str × (PyData → Option Rv))
def dTry (E : List Str) (i : Nat) (hs : Hs) (g : Ds) : Ds := fun env => match g env with
  | .exc c x e => if E.contains c = true ∧ i < e.length then (match hs.lookup c with
    | some hS => (match hS x with
      | some r => .ret r (e.set i .un)
      | none => .bad)
    | none => .exc c x e) else .bad
  | r => r
/-- which class a clause of a class takes -/
def XM (K : PySem.W.Frag) (cls : Str → Addr) (E cs : List Str) : Prop := ∀ c ∈ E, ∀ d ∈ cs, PySem.W.exmOne K (.ref (cls c)) (.ref (cls d)) = some (decide (c = d))
def hsT (K : PySem.W.Frag) (cls : Str → Addr) (i : Nat) (hs : Hs) : List (Value × (Addr → Value → Option Addr → TS)) := hs.map fun h => (.ref (cls h.1), tSu K (cls h.1) i h.2)
theorem wMA_of {E : List Str} {c : Str} {x : PyData} {e : List Sl} {d : Addr} {v : V} (hc : c ∈ E) (hi : i < e.length) (E1 : ER K C e σ H fs) (hd : H d = some (.xd [("thing", v)])) (hv : Fp K H x v) : ∀ {hs : Hs}, XM K C.cls E (hs.map (·.1)) →
    SAft K C H (match hs.lookup c with
      | some hS => (match hS x with
        | some r => .ret r (e.set i .un)
        | none => .bad)
      | none => .exc c x e) D → wMA K i C.W D (hsT K C.cls i hs) (.ref (C.cls c)) (some d) σ H
  | [], _, h => h d v σ H fs .refl E1 hd hv
  | (cj, hS) :: r, xm, h => by
    refine ⟨decide (c = cj), xm c hc cj (by simp), fun z a ha => ?_, fun z => ?_⟩
    · have z : c = cj := of_decide_eq_true z
      subst z
      rw [List.lookup_cons, show (c == c) = true from beq_self_eq_true c] at h
      dsimp only at h
      cases hr : hS x with
      | none => rw [hr] at h; exact h.elim
      | some rv =>
        rw [hr] at h; dsimp only at h
        have li : i < σ.length := by rw [E1.sl.len.1]; exact hi
        have E2 : ER K C (e.set i .un) (σ.set i (some (.ref a))) H (fs.set i []) := E1.put (s := .un) (A := []) rfl (by simp) (fun a h => by cases h) fun a h => by cases h
        refine ⟨rfl, d, v, x, rv, rfl, hd, hv, List.getElem?_set_self li, hr, fun v' H' ne => ?_⟩
        obtain ⟨p, E3, r3⟩ := ne.out E2
        exact h v' _ H' _ (E2.im p) E3 (r3.back E1.there)
    · have z : c ≠ cj := of_decide_eq_false z
      rw [List.lookup_cons, show (c == cj) = false from by simpa using z] at h
      exact wMA_of hc hi E1 hd hv (fun c hc d hd => xm c hc d (by rw [List.map_cons]; exact List.mem_cons_of_mem _ hd)) h
theorem tsd_try {E : List Str} {hs : Hs} (xm : XM K C.cls E (hs.map (·.1))) (h : TSD K C (dTry E i hs g) D σ H) : TSD K (C.w (wMA K i C.W D (hsT K C.cls i hs))) g D σ H := by
  obtain ⟨env, fs, E0, h⟩ := h
  refine ⟨env, fs, E0.toW _, ?_⟩
  unfold dTry at h
  cases q : g env with
  | nx e => rw [q] at h; exact fun σ' H' fs' i E' => h σ' H' fs' i E'.ofW
  | ct e => rw [q] at h; exact fun σ' H' fs' i E' => h σ' H' fs' i E'.ofW
  | brk e => rw [q] at h; exact fun σ' H' fs' i E' => h σ' H' fs' i E'.ofW
  | ret rv e => rw [q] at h; exact fun v σ' H' fs' i E' r => h v σ' H' fs' i E'.ofW r
  | exc c x e =>
    rw [q] at h; dsimp only at h
    by_cases z : E.contains c = true ∧ i < e.length
    · rw [if_pos z] at h
      exact fun d v σ' H' fs' im E' hd hv => wMA_of (by simpa using z.1) z.2 E'.ofW hd hv xm (SAft.im h im)
    · rw [if_neg z] at h; exact h.elim
  | bad => rw [q] at h; exact h.elim
inductive HdsD (X : Cx) (cls : Str → Addr) (n : Str) (i : Nat) : List ExceptHandler → Hs → Prop
  | nil : HdsD X cls n i [] []
  | cons {x c : Str} {hS : PyData → Option Rv} {b₀ : Stmt} {suite : List Stmt} {np pos' : Pos} {hds : List ExceptHandler} {l : Hs} (hc : Names X x (.ref (cls c)))
      (hsu : ∀ (a : Addr) (oe : Obj) (cv : Value) (d : Option Addr) (pn : List (Addr × Obj)), Zc cv d oe → (∃ vs, oe.data = .fields vs) → PSs (X.suite a ((a, oe) :: pn)) (b₀ :: suite) (tSu X.K (cls c) i hS a cv d)) (r : HdsD X cls n i hds l) :
      HdsD X cls n i (.ExceptHandler (some (.Name x np)) (some n) (b₀ :: suite) pos' :: hds) ((c, hS) :: l)
theorem HdsD.toA {cls : Str → Addr} : ∀ {hds : List ExceptHandler} {l : Hs}, HdsD X cls n i hds l → HdsA X n hds (hsT X.K cls i l)
  | _, _, .nil => .nil
  | _, _, .cons hc hsu r => .cons hc hsu r.toA
/-- try: .. except X as e: .., the clauses handing back values -/
theorem ds_try {E : List Str} {hs : Hs} {body : List Stmt} {h₀ : ExceptHandler} {hds : List ExceptHandler} {pos : Pos} (xm : XM X.K C.cls E (hs.map (·.1))) (hst : X.stack = X.env :: X.outer) (hf : X.env.frame = some X.env.locals) (hN : X.N.Nodup) (hi : X.N[i]? = some n) (hln : X.env.kindOf n = some .local) (tk : Takes X C.W)
    (hb : ∀ (W : WX) (pn : List (Addr × Obj)) (xe : Value → Shared → Prop), Takes (X.tr pn xe) W → PSs (X.tr pn xe) body (TSD X.K (C.w W) g)) (hh : HdsD X C.cls n i (h₀ :: hds) hs) : PS X (.Try body (h₀ :: hds) [] [] pos) (TSD X.K C (dTry E i hs g)) :=
  PS.imp (ps_tryA (tb := fun W => TSD X.K (C.w W) g) hst hf hN hi hln tk (fun W pn xe t _ => hb W pn xe t) hh.toA) fun D σ H h => tsd_try xm h
/-! #### suites -/
theorem call_isErr2 {a Ca : Addr} {oe : Obj} {cv : Value} {d : Option Addr} {pn : List (Addr × Obj)} (T : ExcC X.K Ca) (hz : Zc cv d oe) (hf : ∃ vs, oe.data = .fields vs) : CallR (X.suite a ((a, oe) :: pn)) (.builtin "isinstance") (fun xs H Q => cv = .ref Ca ∧ (∃ dd fs, d = some dd ∧ H dd = some (.xd fs)) ∧ rIsE X.K Ca a xs H Q) := by
  intro pins s σ H xs us Q I r h
  obtain ⟨rfl, ⟨dd, fs, rfl, hd⟩, q⟩ := h
  exact call_isErr T hz hf pins s σ H xs us Q I r ⟨⟨fs, hd⟩, q⟩
/-- ('word', e.thing, isinstance(e, S)) -/
def hT3 (w : Str) : PyData → Option Rv := fun x => some (.d (.tuple [.str w, x, .bool true]))
def hL3 (w : Str) : PyData → Option Rv := fun x => some (.ow (.lst [.str w, x, .bool true]))
def hT2 (w : Str) : PyData → Option Rv := fun x => some (.d (.tuple [.str w, x]))
section
variable {a Ca Sa : Addr} {oe : Obj} {cv : Value} {d : Option Addr} {pn : List (Addr × Obj)} {w S : Str} {z kt : Nat} {p0 p1 p2 p3 p4 p5 p6 p7 p8 p9 : Pos}
theorem pa_err3 (T : XfC X.K Ca) (T2 : ExcC X.K Ca) (no : PySem.W.findIn X.K (.ref Ca) "thing" = some none) (hk : PySem.W.kitOne X.K (.ref Ca) (.ref Sa) = some true) (hz : Zc cv d oe) (hf : ∃ vs, oe.data = .fields vs) (hx : ∀ {p : Pos}, PE (X.suite a ((a, oe) :: pn)) (.Name n p) (tVar i))
    (hn : Gl X "isinstance") (hm : X.mg "isinstance" = none) (hn2 : Gl X S) (hm2 : X.mg S = some (.ref Sa)) (hdb : (S == ("__debug__" : Str)) = false)
    (hb : ∀ {p : Pos}, attributeBase (.Name n p) "thing" X.env (eval (.Name n p) X.env) = eval (.Name n p) X.env)
    (s1 : starEach [Expr.Constant (.str w) z p1, .Attribute (.Name n p2) "thing" p3, .Call (.Name "isinstance" p4) [.Name n p5, .Name S p6] [] p7] X.env = (false, eval (Expr.Constant (.str w) z p1) X.env) :: starEach [.Attribute (.Name n p2) "thing" p3, .Call (.Name "isinstance" p4) [.Name n p5, .Name S p6] [] p7] X.env := by rfl)
    (s2 : starEach [Expr.Attribute (.Name n p2) "thing" p3, .Call (.Name "isinstance" p4) [.Name n p5, .Name S p6] [] p7] X.env = (false, eval (Expr.Attribute (.Name n p2) "thing" p3) X.env) :: starEach [.Call (.Name "isinstance" p4) [.Name n p5, .Name S p6] [] p7] X.env := by rfl)
    (s3 : starEach [Expr.Call (.Name "isinstance" p4) [.Name n p5, .Name S p6] [] p7] X.env = (false, eval (Expr.Call (.Name "isinstance" p4) [.Name n p5, .Name S p6] [] p7) X.env) :: starEach [] X.env := by rfl)
    (s4 : starEach [Expr.Name n p5, .Name S p6] X.env = (false, eval (Expr.Name n p5) X.env) :: starEach [.Name S p6] X.env := by rfl) (s5 : starEach [Expr.Name S p6] X.env = (false, eval (Expr.Name S p6) X.env) :: starEach [] X.env := by rfl)
    (s6 : (backTo p7 (starEach [Expr.Name S p6] X.env)).any (·.1) = false := by rfl) :
    PA (X.suite a ((a, oe) :: pn)) [.Constant (.str w) z p1, .Attribute (.Name n p2) "thing" p3, .Call (.Name "isinstance" p4) [.Name n p5, .Name S p6] [] p7]
      (fun σ H Q => cv = .ref Ca ∧ σ[i]? = some (some (.ref a)) ∧ ∃ dd v, d = some dd ∧ H dd = some (.xd [("thing", v)]) ∧ Q [.str w, v, .bl true] H) :=
  PA.imp (pa_cons (X := X.suite a ((a, oe) :: pn)) pe_str (pa_cons (X := X.suite a ((a, oe) :: pn)) (pe_xf T no hz hf hx hb) (pa_cons (X := X.suite a ((a, oe) :: pn)) (pe_callB (X := X.suite a ((a, oe) :: pn)) (call_isErr2 T2 hz hf) hn hm rfl (pa_cons (X := X.suite a ((a, oe) :: pn)) hx (pa_cons (X := X.suite a ((a, oe) :: pn)) (pe_glob (X := X.suite a ((a, oe) :: pn)) hn2 hm2 (v := .ref Sa) rfl hdb) pa_nil s5) s4) (by decide) (by decide) s4 s6) pa_nil s3) s2) s1) fun σ H Q h => by
    obtain ⟨ec, hσ, dd, v, ed, hd, q⟩ := h
    refine ⟨.ref a, hσ, rfl, ec, dd, _, v, ed, hd, rfl, ?_⟩
    exact ⟨.ref a, hσ, ec, ⟨dd, _, ed, hd⟩, .ref Sa, .ref Sa, true, rfl, fun u r => r, hk, q⟩
end
end
end Dn

set_option Elab.async false
set_option linter.all false
set_option maxRecDepth 100000
set_option maxHeartbeats 4000000
/-! ### a lambda handed to a def that calls it -/
namespace Dl
open PySem PySem.Spec PyProof.Rows L2 LamX
section
variable {X : Cx} {pins : List (Addr × Obj)} {σ : L2.St} {H : Hp} {s : Shared}
/-- the lambda is made; what is tracked stays tracked -/
theorem made {T : List (Addr × Str)} {c P : Addr} {params : Arguments} {body : Expr} {scope : Scope} {pos : Pos} {E : Value → Shared → Prop} {R : Value → Shared → Prop} (I : Inv X pins σ H s) (TB : TabB X.base X.mg c P) (hcode : X.env.code = .ref c)
    (hm : (P, X.env.qual ++ "<lambda>") ∈ T) (hu : ∀ p ∈ T, p.1 = P → p.2 = X.env.qual ++ "<lambda>") (hT : Tabs T H) (hdef : defaultsOf params X.env = ([], [])) (hfree : ∀ y ∈ scope.names, y.2 = .free → ∃ c, X.env.cells.lookup y.1 = some c)
    (k : ∀ (f c' : Addr) (pm ctv : Value) (H1 : Hp) (s' : Shared), Inv X pins σ H1 s' → ExtN H H1 → (∀ b, H b ≠ none → H1 b ≠ none) → Tabs T H1 →
      s'.heap.get? f = some (PySem.W.kla_obj "<lambda>" (X.env.qual ++ "<lambda>") params body scope (cloFrom X.env.cells scope.names []) pm c' ctv) → H1 f = none → f ∉ frs X.stack → H1 c' = some (CodeO c' (X.env.qual ++ "<lambda>")) → R (.ref f) s') :
    wpAny (model X.prog X.w) X.A (eval (.Lambda params body scope pos) X.env) R E s := by
  obtain ⟨ps, g1, g2, g3⟩ := hT _ hm
  have g1 : H P = some (.tbl ps) := g1
  have bP : s.heap.BuiltinsAt X.mg P := TB.bm.keeps I.bk
  have oP : s.heap.get? P = some { cls := .none, data := .fields ps } := I.hok P _ g1
  have young : ∀ f, s.heap.objs.size ≤ f → f ∉ frs X.stack := fun f hf z => (List.mem_cons.mp (I.stkSub _ z)).elim (fun e => by
    have l := I.lt
    rw [← e] at l; exact Nat.lt_irrefl _ (Nat.lt_of_lt_of_le l hf)) fun e => I.nofs hf e
  refine PySem.W.kla_eval hdef ?_
  rcases hc : codeAmong pos ps.toList with _ | cv
  · refine PySem.W.kla_makeFunction (mg := X.mg) (c := c) (P := P) (ps := ps) (closure_ok hfree) I.ok.glob (I.mod.glob.keeps I.bk) hcode (TB.code.keeps I.bk) oP g2 hc TB.gP bP fun c1 ctv h' tk hx hge hlt hrec htb => ?_
    obtain ⟨_, oc, vs, t, ec, hoc, hd, hv⟩ := hrec
    cases ec
    have bigger : s.heap.objs.size ≤ h'.objs.size := Nat.le_trans hge (Nat.le_of_lt hlt)
    have nC : H c1 = none := I.hok.fresh hge
    have hE : ExtN H (upd (upd H P (.tbl (ps ++ #[rawInt pos.line, rawInt pos.col, .ref c1]))) c1 (CodeO c1 (X.env.qual ++ "<lambda>"))) := fun b o e n => (upd_ne (ne_of_none e nC)).trans ((upd_ne fun (z : b = P) => n ps (by rw [z, g1] at e; exact (Option.some.inj e).symm)).trans e)
    have atP : (upd (upd H P (.tbl (ps ++ #[rawInt pos.line, rawInt pos.col, .ref c1]))) c1 (CodeO c1 (X.env.qual ++ "<lambda>"))) P = some (.tbl (ps ++ #[rawInt pos.line, rawInt pos.col, .ref c1])) := (upd_ne (ne_of_none g1 nC)).trans upd_same
    have tl : (ps ++ #[rawInt pos.line, rawInt pos.col, .ref c1]).toList = ps.toList ++ [rawInt pos.line, rawInt pos.col, .ref c1] := by simp
    refine k h'.objs.size c1 ((X.mg "__name__").getD .none) ctv _ _
      (inv_table (t' := tk) (more := #[rawInt pos.line, rawInt pos.col, .ref c1]) (h' := h'.push (PySem.W.kla_obj "<lambda>" (X.env.qual ++ "<lambda>") params body scope (cloFrom X.env.cells scope.names []) ((X.mg "__name__").getD .none) c1 ctv)) I g1 (fun b o hb e => Heap.get?_push_of_some _ (hx b o hb e)) (Heap.get?_push_of_some _ htb) hge ⟨oc, vs, t, Heap.get?_push_of_some _ hoc, hd, hv⟩)
      hE (fun b hb => ?_) (fun p hp => ?_) (Heap.get?_push_size _ rfl) ?_ (young _ bigger) upd_same
    · by_cases z : b = c1
      · rw [z, upd_same]; exact Option.some_ne_none _
      rw [upd_ne z]
      by_cases z2 : b = P
      · rw [z2, upd_same]; exact Option.some_ne_none _
      · rw [upd_ne z2]; exact hb
    · by_cases z : p.1 = P
      · rw [hu p hp z, z]
        refine ⟨_, atP, by rw [tl]; exact PySem.TriplesOk_snoc _ _ _ _ g2, fun p' cv hcv => ?_⟩
        rw [tl] at hcv
        refine (among_app _ g2 hcv).elim (fun y => ?_) fun y => ⟨c1, y, upd_same⟩
        obtain ⟨c0, e1, e2⟩ := g3 p' cv y
        exact ⟨c0, e1, hE _ _ e2 codeO_ne⟩
      · obtain ⟨qs, a1, a2, a3⟩ := hT p hp
        refine ⟨qs, (upd_ne (ne_of_none a1 nC)).trans ((upd_ne z).trans a1), a2, fun p' cv hcv => ?_⟩
        obtain ⟨c0, e1, e2⟩ := a3 p' cv hcv
        exact ⟨c0, e1, hE _ _ e2 codeO_ne⟩
    · exact (upd_ne (Nat.ne_of_gt hlt)).trans ((upd_ne (Nat.ne_of_gt (Nat.lt_of_lt_of_le (Heap.lt_size oP) bigger))).trans (I.hok.fresh bigger))
  · obtain ⟨c1, rfl, hco⟩ := g3 pos cv hc
    refine PySem.W.kla_makeFunctionHit (mg := X.mg) (c := c) (P := P) (ps := ps) (closure_ok hfree) I.ok.glob (I.mod.glob.keeps I.bk) hcode (TB.code.keeps I.bk) oP g2 hc bP fun ctv h' tk hx hsz => ?_
    exact k h'.objs.size c1 ((X.mg "__name__").getD .none) ctv H _ (I.kept (t' := tk) (h' := h'.push (PySem.W.kla_obj "<lambda>" (X.env.qual ++ "<lambda>") params body scope (cloFrom X.env.cells scope.names []) ((X.mg "__name__").getD .none) c1 ctv)) fun b o e => Heap.get?_push_of_some _ (hx b o e)) (ExtN.refl H) (fun _ h => h) hT (Heap.get?_push_size _ rfl) (I.hok.fresh hsz) (young _ hsz) hco
end
/-- as tLam; what is tracked stays tracked -/
def tLm (T : List (Addr × Str)) (TT : (XK → Hp → VK → Prop) → Hp → VK → Prop) (t : XK → TE) : TE := fun σ H Q => Tabs T H ∧ ∀ H1, ExtN H H1 → (∀ b, H b ≠ none → H1 b ≠ none) → Tabs T H1 → TT (fun E H' Q' => t E σ H' Q') H1 Q
section
variable {X : Cx}
/-- x(lambda: body), where x has the one parameter a -/
theorem pe_lm {T : List (Addr × Str)} {TT : (XK → Hp → VK → Prop) → Hp → VK → Prop} {x a : Str} {st : Stmt} {g c P : Addr} {k : Nat} {fd : FuncData} {Ng : List Str} {params : Arguments} {body : Expr} {scope : Scope} {t : XK → TE} {p lpos pos : Pos} (hn : Gl X x) (hm : X.mg x = some (.ref g)) (hk : PySem.W.keepIn X.K (.ref g) = true)
    (F : Fun X.K x x st g fd) (hb : L2.Binds X.K fd [a] []) (Sg : FnScope Ng [a] (defScope st)) (hNg : Ng[0]? = some a)
    (hG : ∀ cdv : Value, PySem.W.codeIn X.K cdv x = true → GivesTo X Ng x (defScope st) g cdv (defBody st) a (X.env.qual ++ "<lambda>") TT)
    (TB : TabB X.base X.mg c P) (hcode : X.env.code = .ref c) (hmT : (P, X.env.qual ++ "<lambda>") ∈ T) (hu : ∀ p ∈ T, p.1 = P → p.2 = X.env.qual ++ "<lambda>") (hr : Room (k + 2) X.A) (L : LamS X.env.scope scope) (hdef : defaultsOf params X.env = ([], []))
    (hbind : ∀ (q : Str) (cl : List (Str × Addr)) (pm cv ctv : Value), bindArgs (PySem.W.kla_fn "<lambda>" q params body scope cl pm cv ctv) ⟨[], []⟩ = pure [])
    (hbody : ∀ (A : Around) (outer : List Env) (s : Shared) (H : Hp) (E : XK) (f c' : Addr), Room k (A.deeper (lamEnv X scope s.heap.objs.size f c')) → PE (lamCx X A outer s H E scope f c') body (t E))
    (hdb : (x == ("__debug__" : Str)) = false := by decide) (hd : (a == ("__debug__" : Str)) = false := by decide) (hcd : (a == ("__classdict__" : Str)) = false := by decide) :
    PE X (.Call (.Name x p) [.Lambda params body scope lpos] [] pos) (tLm T TT t) := ⟨fun pins s σ H Q I h => by
  obtain ⟨hT, h⟩ := h
  obtain ⟨oc, od, kV, doc, pm, an, cdv, ct, osl, rfl, lk, hcg⟩ := F.ex
  refine wpAny_Call_Name_kw (ld_glob I hn hm (PySem.W.callWith_K (h₀ := X.base) I.ok.mod.kin hk ?_ (by rfl) (by rfl)) hdb)
  show wpAny _ _ (spliced ((false, eval (.Lambda params body scope lpos) X.env) :: backTo pos (starEach [] X.env))) _ _ s
  refine Calls.spliced_cons (made I TB hcode hmT hu hT hdef (L.has I.ok) fun f c' pm' ctv H1 s' I1 eN th T1 hf hfn hfr hco => Calls.spliced_nil ⟨I1.kIn, ?_⟩)
  refine wpAny_call (codeAny_mono (R := CR C8.CX0 X.stack X.prog X.w H1 s' Q C8.E0) (run_ofS (N := Ng) (ps := [a]) (us := [.ref f]) (vs := [.ref f]) lk hcg Sg hr I1.env0 (hb s' [.ref f] I1.kIn rfl) (.cons rfl .nil) rfl fun hr' => ?_) fun r s2 hq => ?_)
  · obtain ⟨t', ht', hq'⟩ := hG cdv hcg f c' s' H1 Q (fun E H' Q' => t E σ H' Q') (fun W pn xe E p1 p2 tk hW => pe_act (i := 0) I1 L hf hfn hfr (hbind _ _ _ _ _) tk hW hr' (fun A outer s H hr2 => hbody A outer s H E f c' hr2) hNg (vis_par Sg (by simp)) hd hcd) hco (h H1 eN th T1)
    exact ⟨t', ht'.nox, hq'⟩
  · cases r with
    | error e => exact (show False from hq).elim
    | ok fl =>
      cases fl with
      | ret u => exact I1.after hq
      | _ => exact False.elim hq⟩
end
end Dl

set_option Elab.async false
set_option linter.all false
set_option maxRecDepth 100000
set_option maxHeartbeats 4000000
namespace Dn
open PySem PySem.Spec PyProof.Rows L2
/-! ### suites of clauses -/
section
variable {X : Cx} {n : Str} {i : Nat} {a Ca Sa : Addr} {oe : Obj} {cv : Value} {d : Option Addr} {pn : List (Addr × Obj)} {w : Str} {kt : Nat} {es : List Expr} {p8 p9 : Pos}
theorem su_T3 (h : PA (X.suite a ((a, oe) :: pn)) es (fun σ H Q => cv = .ref Ca ∧ σ[i]? = some (some (.ref a)) ∧ ∃ dd v, d = some dd ∧ H dd = some (.xd [("thing", v)]) ∧ Q [.str w, v, .bl true] H)) : PSs (X.suite a ((a, oe) :: pn)) [.Return (some (.Tuple es kt p8)) p9] (tSu X.K Ca i (hT3 w) a cv d) :=
  PSs.imp (pss_one (ps_ret (pe_tup h))) fun D σ H h => by
    obtain ⟨ec, dd, v, x, r, ed, hd, hv, hs, hr, q⟩ := h
    cases hr
    refine ⟨ec, hs, dd, v, ed, hd, by rw [sizeLine_eq]; show 3 ≤ 16777216; decide, fun p hp => q _ _ (ne_tup hp ⟨_, _, rfl, rfl, v, _, rfl, hv, _, _, rfl, rfl, rfl⟩)⟩
theorem su_L3 (h : PA (X.suite a ((a, oe) :: pn)) es (fun σ H Q => cv = .ref Ca ∧ σ[i]? = some (some (.ref a)) ∧ ∃ dd v, d = some dd ∧ H dd = some (.xd [("thing", v)]) ∧ Q [.str w, v, .bl true] H)) : PSs (X.suite a ((a, oe) :: pn)) [.Return (some (.List es p8)) p9] (tSu X.K Ca i (hL3 w) a cv d) :=
  PSs.imp (pss_one (ps_ret (pe_lst h))) fun D σ H h => by
    obtain ⟨ec, dd, v, x, r, ed, hd, hv, hs, hr, q⟩ := h
    cases hr
    refine ⟨ec, hs, dd, v, ed, hd, by rw [sizeLine_eq]; show 3 ≤ 16777216; decide, fun p hp => q _ _ (ne_lst hp ⟨_, _, rfl, rfl, v, _, rfl, hv, _, _, rfl, rfl, rfl⟩)⟩
end
/-! ### heard(lambda: ..): try: return ('told', call()) except .. -/
/-- what an error comes to -/
def Ech (K : PySem.W.Frag) (cls : Str → Addr) (E : List Str) (hs : Hs) (Q : VK) : XK := fun cv d H => ∃ c x v dd hS r, cv = .ref (cls c) ∧ E.contains c = true ∧ d = some dd ∧ H dd = some (.xd [("thing", v)]) ∧ Fp K H x v ∧ hs.lookup c = some hS ∧ hS x = some r ∧ ∀ v' H', Ne K H H' r v' → Q v' H'
theorem ech_w {K : PySem.W.Frag} {cls : Str → Addr} {E : List Str} {i : Nat} {σ : L2.St} {H : Hp} {Q : VK} {D : Ends} {Wout : WX} (hi : i < σ.length) (hD : D.rt = Q) {c : Str} {x : PyData} {v : V} {dd : Addr} {hS : PyData → Option Rv} {r : Rv} (hc : c ∈ E) (hd : H dd = some (.xd [("thing", v)])) (hv : Fp K H x v) (hr : hS x = some r) (k : ∀ v' H', Ne K H H' r v' → Q v' H') :
    ∀ {hs : Hs}, XM K cls E (hs.map (·.1)) → hs.lookup c = some hS → wMA K i Wout D (hsT K cls i hs) (.ref (cls c)) (some dd) σ H
  | [], _, h => by cases h
  | (cj, hT) :: l, xm, h => by
    refine ⟨decide (c = cj), xm c hc cj (by simp), fun z a ha => ?_, fun z => ?_⟩
    · have z : c = cj := of_decide_eq_true z
      subst z
      rw [List.lookup_cons, show (c == c) = true from beq_self_eq_true c] at h
      cases h
      refine ⟨rfl, dd, v, x, r, rfl, hd, hv, List.getElem?_set_self hi, hr, fun v' H' ne => ?_⟩
      show D.rt v' H'
      rw [hD]; exact k v' H' ne
    · have z : c ≠ cj := of_decide_eq_false z
      rw [List.lookup_cons, show (c == cj) = false from by simpa using z] at h
      exact ech_w hi hD hc hd hv hr k (fun c hc d hd => xm c hc d (by rw [List.map_cons]; exact List.mem_cons_of_mem _ hd)) h
theorem takesL {X : Cx} {W : WX} (t : Takes X W) : Takes X (fun cls d σ H => σ.length = X.N.length → W cls d σ H) := fun u s' ⟨a, B, sI, pins, σ, H, cls, d, e, I, nb, up, sky, na, os, ag, w⟩ => t u s' ⟨a, B, sI, pins, σ, H, cls, d, e, I, nb, up, sky, na, os, ag, w I.len⟩
/-- what the def makes of the lambda's reading: lst: a list, else a tuple -/
def TTd (K : PySem.W.Frag) (cls : Str → Addr) (E : List Str) (hs : Hs) (lst : Bool) (w : Str) : (XK → Hp → VK → Prop) → Hp → VK → Prop := fun tl H Q => tl (Ech K cls E hs Q) H fun v H1 => [V.str w, v].length ≤ sizeLine ∧ ∀ p, H1 p = none → Q (.ref p) (upd H1 p (match lst with | true => .lst [.str w, v] | false => .tup [.str w, v]))
section
variable {X : Cx} {x a n q w : Str} {Ng : List Str} {sg : Scope} {g : Addr} {cdg : Value} {i : Nat} {E : List Str} {hs : Hs} {cls : Str → Addr} {h₀ : ExceptHandler} {hds : List ExceptHandler} {z kt : Nat} {p1 p2 p3 p4 p5 p6 : Pos}
theorem gives_T (xm : XM X.K cls E (hs.map (·.1))) (hN : Ng.Nodup) (hi : Ng[i]? = some n) (h0 : 1 ≤ Ng.length) (hln : sg.names.lookup n = some .local)
    (hh : ∀ (s : Shared) (H : Hp), HdsD ((cxOf C8.CX0 X.prog X.w X.K X.mg X.base Ng x sg g cdg X.A X.stack s H C8.E0).nox) cls n i (h₀ :: hds) hs) :
    LamX.GivesTo X Ng x sg g cdg [.Try [.Return (some (.Tuple [.Constant (.str w) z p1, .Call (.Name a p2) [] [] p3] kt p4)) p5] (h₀ :: hds) [] [] p6] a q (TTd X.K cls E hs false w) := by
  intro f c' s H Q tl act hc h
  refine ⟨_, pss_one (ps_tryA (X := (cxOf C8.CX0 X.prog X.w X.K X.mg X.base Ng x sg g cdg X.A X.stack s H C8.E0).nox) (Wout := fun _ _ _ _ => False) (tb := fun W D σ H1 => σ[0]? = some (some (.ref f)) ∧ H1 c' = some (LamX.CodeO c' q) ∧ ∃ Q' : VK, (∀ cv d σ' H', Ech X.K cls E hs Q' cv d H' → σ'.length = Ng.length → W cv d σ' H') ∧ TTd X.K cls E hs false w tl H1 Q' ∧ D.rt = Q')
      rfl rfl hN hi hln LamX.takes0 (fun W pn xe tk _ => ?_) (hh s H).toA), ?_⟩
  · refine ⟨fun pins s' σ H' D I h' => ?_⟩
    obtain ⟨h1, h2, Q', hW, h3, hD⟩ := h'
    have hp := act (fun cv d σ H => σ.length = Ng.length → W cv d σ H) pn xe (Ech X.K cls E hs Q') p2 p3 (takesL tk) (fun cv d σ' H' e hl => hW cv d σ' H' e hl)
    have hq := pss_one (ps_ret (pos := p5) (pe_tup (x1 := kt) (pos := p4) (pa_cons (pe_str (X := (cxOf C8.CX0 X.prog X.w X.K X.mg X.base Ng x sg g cdg X.A X.stack s H C8.E0).nox.tr pn xe) (x := w) (j := z) (pos := p1)) (pa_cons hp pa_nil))))
    refine hq.run pins s' σ H' D I ⟨h1, h2, ?_⟩
    rw [hD]; exact h3
  · have l0 : (L2.start Ng [V.ref f])[0]? = some (some (V.ref f)) := rfl
    refine ⟨l0, hc, Q, fun cv d σ' H' e hl => ?_, h, rfl⟩
    obtain ⟨c, x, v, dd, hS, r, rfl, hce, rfl, hd, hv, hk, hr, k⟩ := e
    have li : i < Ng.length := (List.getElem?_eq_some_iff.mp hi).1
    exact ech_w (by omega) rfl (by simpa using hce) hd hv hr k xm hk
theorem gives_L (xm : XM X.K cls E (hs.map (·.1))) (hN : Ng.Nodup) (hi : Ng[i]? = some n) (h0 : 1 ≤ Ng.length) (hln : sg.names.lookup n = some .local)
    (hh : ∀ (s : Shared) (H : Hp), HdsD ((cxOf C8.CX0 X.prog X.w X.K X.mg X.base Ng x sg g cdg X.A X.stack s H C8.E0).nox) cls n i (h₀ :: hds) hs) :
    LamX.GivesTo X Ng x sg g cdg [.Try [.Return (some (.List [.Constant (.str w) z p1, .Call (.Name a p2) [] [] p3] p4)) p5] (h₀ :: hds) [] [] p6] a q (TTd X.K cls E hs true w) := by
  intro f c' s H Q tl act hc h
  refine ⟨_, pss_one (ps_tryA (X := (cxOf C8.CX0 X.prog X.w X.K X.mg X.base Ng x sg g cdg X.A X.stack s H C8.E0).nox) (Wout := fun _ _ _ _ => False) (tb := fun W D σ H1 => σ[0]? = some (some (.ref f)) ∧ H1 c' = some (LamX.CodeO c' q) ∧ ∃ Q' : VK, (∀ cv d σ' H', Ech X.K cls E hs Q' cv d H' → σ'.length = Ng.length → W cv d σ' H') ∧ TTd X.K cls E hs true w tl H1 Q' ∧ D.rt = Q')
      rfl rfl hN hi hln LamX.takes0 (fun W pn xe tk _ => ?_) (hh s H).toA), ?_⟩
  · refine ⟨fun pins s' σ H' D I h' => ?_⟩
    obtain ⟨h1, h2, Q', hW, h3, hD⟩ := h'
    have hp := act (fun cv d σ H => σ.length = Ng.length → W cv d σ H) pn xe (Ech X.K cls E hs Q') p2 p3 (takesL tk) (fun cv d σ' H' e hl => hW cv d σ' H' e hl)
    have hq := pss_one (ps_ret (pos := p5) (pe_lst (pos := p4) (pa_cons (pe_str (X := (cxOf C8.CX0 X.prog X.w X.K X.mg X.base Ng x sg g cdg X.A X.stack s H C8.E0).nox.tr pn xe) (x := w) (j := z) (pos := p1)) (pa_cons hp pa_nil))))
    refine hq.run pins s' σ H' D I ⟨h1, h2, ?_⟩
    rw [hD]; exact h3
  · have l0 : (L2.start Ng [V.ref f])[0]? = some (some (V.ref f)) := rfl
    refine ⟨l0, hc, Q, fun cv d σ' H' e hl => ?_, h, rfl⟩
    obtain ⟨c, x, v, dd, hS, r, rfl, hce, rfl, hd, hv, hk, hr, k⟩ := e
    have li : i < Ng.length := (List.getElem?_eq_some_iff.mp hi).1
    exact ech_w (by omega) rfl (by simpa using hce) hd hv hr k xm hk
end
/-! ### at the caller -/
def dHeard (E : List Str) (hs : Hs) (lst : Bool) (w : Str) (f : De) : De := fun env => match f env with
  | .ok (.d x) e => .ok (match lst with
    | true => .ow (.lst [.str w, x])
    | false => .d (.tuple [.str w, x])) e
  | .exc c x e => if E.contains c = true then (match hs.lookup c with
    | some hS => (match hS x with
      | some (.d r) => .ok (.d r) e
      | some (.ow r) => .ok (.ow r) e
      | _ => .bad)
    | none => .bad) else .bad
  | _ => .bad
section
variable {K : PySem.W.Frag} {X : Cx} {C : Fr} {f : De} {σ : L2.St} {H H' : Hp} {E : List Str} {hs : Hs} {lst : Bool} {w : Str}
theorem td_heard {Q : VK} (h : TD K C (dHeard E hs lst w f) σ H Q) : Dl.tLm C.T (TTd K C.cls E hs lst w) (fun E' => TD K (C.w (fun cls d _ H => E' cls d H)) f) σ H Q := by
  obtain ⟨env, fs, E0, h⟩ := h
  refine ⟨E0.tabs, fun H1 eN th T1 => ?_⟩
  obtain ⟨p1, E1⟩ := E0.exT (fun a o q t => eN a o q t) th T1
  have h := After.step h p1 .refl
  refine ⟨env, fs, E1.toW _, ?_⟩
  unfold dHeard at h
  cases q : f env with
  | ok r e =>
    rw [q] at h
    intro H2 fs2 p2 s2 E2 v rv
    match r, h, rv with
    | .d x, h, rv =>
      refine ⟨by rw [sizeLine_eq]; show 2 ≤ 16777216; decide, fun p hp => ?_⟩
      have ps : ∀ {ws : List V}, ws = [V.str w, v] → FpL K H2 [.str w, x] ws := fun e => by subst e; exact ⟨_, _, rfl, rfl, v, _, rfl, rv, rfl⟩
      cases lst with
      | true =>
        obtain ⟨p3, E3, r3⟩ := (ne_lst (K := K) hp (ps rfl)).out E2.ofW
        exact h _ fs2 (p2.trans p3 s2) s2 E3 _ (r3.back fun a z => p2.there a (p1.there a z))
      | false =>
        obtain ⟨p3, E3, r3⟩ := (ne_tup (K := K) hp (ps rfl)).out E2.ofW
        exact h _ fs2 (p2.trans p3 s2) s2 E3 _ (r3.back fun a z => p2.there a (p1.there a z))
  | exc c x e =>
    rw [q] at h
    dsimp only at h
    by_cases hc : E.contains c = true
    · rw [if_pos hc] at h
      cases hl : hs.lookup c with
      | none => rw [hl] at h; exact h.elim
      | some hS =>
        rw [hl] at h; dsimp only at h
        intro d v H2 fs2 p2 s2 E2 hd hv
        have fin : ∀ {r : Rv}, hS x = some r → (∀ H' fs', Stp fs.flatten H1 H' → Sub fs' fs → ER K C e σ H' fs' → ∀ v, RvR K H σ H' fs' r v → Q v H') → Ech K C.cls E hs Q (.ref (C.cls c)) (some d) H2 := fun {r} hr k =>
          ⟨c, x, v, d, hS, r, rfl, hc, rfl, hd, hv, hl, hr, fun v' H' ne => by
            obtain ⟨p3, E3, r3⟩ := ne.out E2.ofW
            exact k _ fs2 (p2.trans p3 s2) s2 E3 _ (r3.back fun a z => p2.there a (p1.there a z))⟩
        cases hr : hS x with
        | none => rw [hr] at h; exact h.elim
        | some r =>
          rw [hr] at h
          cases r with
          | d r => exact fin hr h
          | ow r => exact fin hr h
          | bo i => exact h.elim
          | rng lo hi => exact h.elim
    · rw [if_neg hc] at h; exact h.elim
  | bad => rw [q] at h; exact h.elim
theorem lam_takes {A : Around} {outer : List Env} {s : Shared} {E' : XK} {scope : Scope} {g c' : Addr} : Takes (LamX.lamCx X A outer s H E' scope g c') (fun cls d _ H => E' cls d H) := takes_of rfl rfl rfl rfl
/-- x(lambda: body), x being a def that tells what it heard -/
theorem de_heard {x a : Str} {st : Stmt} {g c P : Addr} {k : Nat} {fd : FuncData} {Ng : List Str} {params : Arguments} {body : Expr} {scope : Scope} {p lpos pos : Pos} (hn : Gl X x) (hm : X.mg x = some (.ref g)) (hk : PySem.W.keepIn X.K (.ref g) = true)
    (F : Fun X.K x x st g fd) (hb : L2.Binds X.K fd [a] []) (Sg : FnScope Ng [a] (defScope st)) (hNg : Ng[0]? = some a)
    (hG : ∀ cdv : Value, PySem.W.codeIn X.K cdv x = true → LamX.GivesTo X Ng x (defScope st) g cdv (defBody st) a (X.env.qual ++ "<lambda>") (TTd X.K C.cls E hs lst w))
    (TB : LamX.TabB X.base X.mg c P) (hcode : X.env.code = .ref c) (hmT : (P, X.env.qual ++ "<lambda>") ∈ C.T) (hu : ∀ p ∈ C.T, p.1 = P → p.2 = X.env.qual ++ "<lambda>") (hr : Room (k + 2) X.A) (L : LamX.LamS X.env.scope scope) (hdef : defaultsOf params X.env = ([], []))
    (hbind : ∀ (q : Str) (cl : List (Str × Addr)) (pm cv ctv : Value), bindArgs (PySem.W.kla_fn "<lambda>" q params body scope cl pm cv ctv) ⟨[], []⟩ = pure [])
    (hbody : ∀ (A : Around) (outer : List Env) (s : Shared) (H : Hp) (E' : XK) (f' c' : Addr), Room k (A.deeper (LamX.lamEnv X scope s.heap.objs.size f' c')) → PE (LamX.lamCx X A outer s H E' scope f' c') body (TD X.K (C.w (fun cls d _ H => E' cls d H)) f))
    (hdb : (x == ("__debug__" : Str)) = false := by decide) (hd : (a == ("__debug__" : Str)) = false := by decide) (hcd : (a == ("__classdict__" : Str)) = false := by decide) :
    PE X (.Call (.Name x p) [.Lambda params body scope lpos] [] pos) (TD X.K C (dHeard E hs lst w f)) := PE.imp (Dl.pe_lm (t := fun E' => TD X.K (C.w (fun cls d _ H => E' cls d H)) f) hn hm hk F hb Sg hNg hG TB hcode hmT hu hr L hdef hbind hbody hdb hd hcd) fun _ _ _ h => td_heard h
end
end Dn

set_option Elab.async false
set_option linter.all false
set_option maxRecDepth 100000
set_option maxHeartbeats 4000000
/-! ### the end of a law: its promise, told of a script of ints -/
namespace De
open PySem PySem.Spec PyProof.Rows L2 LamX Dn
open Classical in
/-- what is tracked at first: the script, if it is new, and the tables -/
noncomputable def H0 (K : PySem.W.Frag) (a : Addr) (vs : List Value) (ns : List Int) (cs : List (Addr × Addr)) : Hp := fun b => if b = a ∧ K.lookup a = none then some (.frz { cls := .type "list", data := .seq vs.toArray } (.lst (ns.map V.int))) else if ∃ p ∈ cs, b = p.2 then some (.tbl #[]) else none
section
variable {P : Program} {w : World} {K : PySem.W.Frag} {mg mb : Str → Option Value} {k : Nat} {fa a : Addr} {cs : List (Addr × Addr)} {fd : FuncData} {x : Str} {s : Shared} {vs : List Value} {ns : List Int}
theorem law_run {gd : Bool} {T : List (Addr × Str)} {cls : Str → Addr} {F : Fn} {outs : List Sl} (kin : K.In s.heap) (hns : s.heap.Ns mainGlobals mg) (hb : s.heap.Ns builtinsNs mb) (hbb : ∀ x : Str, x ≠ "__name__" → mb x = bootBuiltins x) (hlim : s.heap.NoLimit) (hg : s.gens = #[])
    (hT : ∀ p ∈ cs, s.heap.get? p.2 = some { cls := .none, data := .fields #[] }) (nT : ∀ p ∈ cs, K.lookup p.2 = none) (C : ∀ p ∈ cs, PySem.W.CodeHd s.heap p.1 p.2) (hTs : ∀ q ∈ T, ∃ p ∈ cs, q.1 = p.2)
    (hbm : ∃ (bm : Addr) (ob : Obj), mg "__builtins__" = some (.ref bm) ∧ bm ≠ builtinsNs ∧ s.heap.get? bm = some ob ∧ ob.cls = .type "module" ∧ ob.dict = some builtinsNs ∧ ob.data = .plain)
    (ha : s.heap.get? a = some { cls := .type "list", data := .seq vs.toArray }) (hi : IntsAre vs ns) (hl : ns.length ≤ sizeLine) (hr : Room k callerA)
    (FG : ∀ base : Heap, K.In base → base.Ns mainGlobals mg → (∀ p ∈ cs, TabB base mg p.1 p.2) → FnG gd P w K mg base k fa fd [x] (spD K T cls 1 F)) (hbind : ∀ (s : Shared) (u : Value), BindsTo s fd ⟨[u], []⟩ [(x, u)]) (hF : F [.scr ns] = .ok (.d (.bool true)) outs) :
    codeAny (model P w) callerA (.call (.ref fa) ⟨[.ref a], []⟩) (fun r s' => r = .ok (.ret (.bool true)) ∧ OldK s.heap s'.heap ∧ s'.os = s.os ∧ AllBare s'.gens) s := by
  have rv := vals_ints hi
  have tbl : ∀ {b : Addr}, (∃ p ∈ cs, b = p.2) → s.heap.get? b = some { cls := .none, data := .fields #[] } := fun ⟨p, hp, e⟩ => e ▸ hT p hp
  have aT : ¬ ∃ p ∈ cs, a = p.2 := fun z => by
    have q := (tbl z).symm.trans ha
    have y : Data.fields #[] = Data.seq vs.toArray _ := congrArg Obj.data (Option.some.inj q)
    cases y
  have cases0 : ∀ b, (H0 K a vs ns cs b = none) ∨ (b = a ∧ K.lookup a = none ∧ H0 K a vs ns cs b = some (.frz { cls := .type "list", data := .seq vs.toArray } (.lst (ns.map V.int)))) ∨ ((∃ p ∈ cs, b = p.2) ∧ b ≠ a ∧ H0 K a vs ns cs b = some (.tbl #[])) := fun b => by
    by_cases z : b = a ∧ K.lookup a = none
    · exact .inr (.inl ⟨z.1, z.2, if_pos z⟩)
    · by_cases y : ∃ p ∈ cs, b = p.2
      · exact .inr (.inr ⟨y, fun e => aT (e ▸ y), (if_neg z).trans (if_pos y)⟩)
      · exact .inl ((if_neg z).trans (if_neg y))
  have atT : ∀ {b : Addr}, (∃ p ∈ cs, b = p.2) → H0 K a vs ns cs b = some (.tbl #[]) := fun {b} z => by
    rcases cases0 b with q | ⟨q, _, _⟩ | ⟨_, _, q⟩
    · have nb : ¬ (b = a ∧ K.lookup a = none) := fun y => aT (by obtain ⟨p, hp, e⟩ := z; exact ⟨p, hp, y.1.symm.trans e⟩)
      have q2 : H0 K a vs ns cs b = some (.tbl #[]) := (if_neg nb).trans (if_pos z)
      rw [q] at q2; cases q2
    · exact absurd (q ▸ z) aT
    · exact q
  have hok : HOk P w (H0 K a vs ns cs) s.heap := fun b u e => by
    rcases cases0 b with q | ⟨z, _, q⟩ | ⟨z, _, q⟩
    · rw [q] at e; cases e
    · rw [q] at e; cases e; subst z
      exact ⟨ha, by rw [List.length_map]; exact hl, vs, _, rv, ha⟩
    · rw [q] at e; cases e; exact tbl z
  have hid : ∀ {b : Addr} {o : Obj}, s.heap.get? b = some o → H0 K a vs ns cs b = none → (hidT s.heap (H0 K a vs ns cs)).get? b = some o := fun e n => hidT_get e n
  have other : ∀ {b : Addr} {o : Obj}, s.heap.get? b = some o → (∀ vs n, o.data ≠ .seq vs n) → o.data ≠ .fields #[] → H0 K a vs ns cs b = none := fun {b o} e h1 h2 => by
    rcases cases0 b with q | ⟨z, _, _⟩ | ⟨z, _, _⟩
    · exact q
    · rw [z, ha] at e; cases e; exact absurd rfl (h1 _ _)
    · rw [tbl z] at e; cases e; exact absurd rfl h2
  have nsH : ∀ {b : Addr} {m : Str → Option Value}, s.heap.Ns b m → (hidT s.heap (H0 K a vs ns cs)).Ns b m := fun ⟨o, es, ep, e, d, r⟩ => ⟨o, es, ep, hid e (other e (fun vs n z => by rw [d] at z; cases z) fun z => by rw [d] at z; cases z), d, r⟩
  have kin2 : K.In (hidT s.heap (H0 K a vs ns cs)) := fun b o e => hid (kin b o e) (by
    rcases cases0 b with q | ⟨z, y, _⟩ | ⟨z, _, _⟩
    · exact q
    · rw [z, y] at e; cases e
    · obtain ⟨p, hp, ep⟩ := z
      rw [ep, nT p hp] at e; cases e)
  have md : L2.Mod K mg (hidT s.heap (H0 K a vs ns cs)) := ⟨kin2, nsH hns, ⟨mb, nsH hb, hbb⟩, let ⟨mc, h1, h2⟩ := hlim; ⟨mc, nsH h1, h2⟩⟩
  have TB : ∀ p ∈ cs, TabB (hidT s.heap (H0 K a vs ns cs)) mg p.1 p.2 := fun p hp => by
    have oP := hT p hp
    refine ⟨?_, ?_, fun z => ?_⟩
    · obtain ⟨o, us, file, tf, flags, tg, inF, text, tt, e1, r1, r2, r3, rest⟩ := C p hp
      exact ⟨o, us, file, tf, flags, tg, inF, text, tt, hid e1 (other e1 (fun vs n z => by rw [r2] at z; cases z) fun z => by rw [r2] at z; cases z; simp at r3), r1, r2, r3, rest⟩
    · obtain ⟨bm, ob, b1, b2, b3, b4, b5, b6⟩ := hbm
      have n1 : bm ≠ mainGlobals := fun q => by
        obtain ⟨o, es, ep, e, hd, _⟩ := hns
        rw [q, e] at b3; cases b3; rw [hd] at b6; cases b6
      have n2 : bm ≠ p.2 := fun q => by rw [q, oP] at b3; cases b3; cases b6
      exact ⟨bm, ob, b1, b2, n1, n2, hid b3 (other b3 (fun vs n z => by rw [b6] at z; cases z) fun z => by rw [b6] at z; cases z), b4, b5, b6⟩
    · obtain ⟨o, es, ep, e, hd, _⟩ := hns
      rw [z, oP] at e; cases e; cases hd
  have e0 : Env0 P w K mg (hidT s.heap (H0 K a vs ns cs)) callerA [] s (H0 K a vs ns cs) := ⟨rfl, md, fun b o e => of_hidT e, Nat.le_of_eq (hidT_size _ _), trivial, fun b hb => absurd (show b ∈ ([] : List Addr) from hb) (by simp), hok, .of_eq hg⟩
  have scr : ScrR K (H0 K a vs ns cs) ns (.ref a) := ⟨a, rfl, by
    cases hk : K.lookup a with
    | none =>
      refine .inl ⟨{ cls := .type "list", data := .seq vs.toArray }, ?_⟩
      exact if_pos ⟨rfl, hk⟩
    | some o =>
      have e := kin a o hk
      rw [ha] at e; cases e
      exact .inr (.inr ⟨_, vs.toArray, _, hk, rfl, rfl, rfl, by rw [List.size_toArray, hi.length]; exact hl, by simpa using rv⟩)⟩
  have tabs : LamX.Tabs T (H0 K a vs ns cs) := fun q hq => by
    obtain ⟨p, hp, e⟩ := hTs q hq
    rw [show q = (q.1, q.2) from rfl, e]
    exact TabS.nil (atT ⟨p, hp, rfl⟩)
  have hsp : spD K T cls 1 F [.ref a] (H0 K a vs ns cs) (fun v _ => v = .bl true) (fun _ _ _ => False) := ⟨[.scr ns], [[]], ⟨_, _, [], [], rfl, rfl, ⟨rfl, _, rfl, scr⟩, rfl, rfl⟩, rfl, rfl, by simp, tabs, by rw [hF]; exact fun v H' _ _ _ r => r⟩
  refine codeAny_mono ((FG _ kin2 (nsH hns) TB).run callerA [] s _ ⟨[.ref a], []⟩ [.ref a] [.ref a] _ _ hr (fun _ => rfl) e0 (hbind s (.ref a)) (.cons rfl .nil) hsp) fun r s' h => ?_
  cases r with
  | error e =>
    obtain ⟨_, _, _, _, _, _, _, _, _, _, _, _, z⟩ := (show L2.CX P w [] (H0 K a vs ns cs) s (fun _ _ _ => False) e s' from h)
    exact z.elim
  | ok fl =>
    cases fl with
    | ret u =>
      obtain ⟨v, H', os, bare, un, hok', r', q⟩ := h
      have q' : v = .bl true := q
      subst q'
      obtain rfl : u = Value.bool true := r'
      have stay : ∀ b o, (¬ ∃ p ∈ cs, b = p.2) → s.heap.get? b = some o → s'.heap.get? b = some o := fun b o nb e => by
        rcases cases0 b with q | ⟨z, _, q⟩ | ⟨z, _, _⟩
        · exact un.keep b o e q (fun z => absurd (show b ∈ ([] : List Addr) from z) (by simp)) (by simp)
        · obtain ⟨e1, _⟩ := hok b _ q
          obtain ⟨e2, _⟩ := hok' b _ (un.frzs b _ _ q)
          rw [e] at e1; cases e1; exact e2
        · exact absurd z nb
      have more : ∀ {b : Addr}, (∃ p ∈ cs, b = p.2) → ∃ m : Array Value, s'.heap.get? b = some { cls := .none, data := .fields m } := fun z => by
        obtain ⟨m, y⟩ := un.tbls _ #[] (atT z)
        exact ⟨_, hok' _ _ y⟩
      refine ⟨rfl, ⟨fun b o e => ?_, fun b o e => ?_⟩, os, bare⟩
      · by_cases z : ∃ p ∈ cs, b = p.2
        · obtain ⟨m, hm⟩ := more z
          obtain ⟨p, hp, ep⟩ := z
          subst ep
          rw [hT p hp] at e; cases e
          exact .inr (.inl ⟨((C p hp).tab (hT p hp)).isCodeTable, rfl, #[], m, rfl, by rw [Array.empty_append]; exact hm⟩)
        · exact .inl (stay b o z e)
      · by_cases z : ∃ p ∈ cs, b = p.2
        · obtain ⟨m, hm⟩ := more z; exact ⟨_, hm⟩
        · exact ⟨o, stay b o z e⟩
    | _ => exact False.elim h
/-- what is known of the law at the head's heap -/
def LawD (l : PySem.W.OpenLaw) (w : World) (K : PySem.W.Frag) (k n : Nat) (x : Str) (mg : Str → Option Value) (fa : Addr) (h : Heap) : Prop :=
  ∃ (gd : Bool) (fd : FuncData) (cs : List (Addr × Addr)) (T : List (Addr × Str)) (cls : Str → Addr) (F : Fn), (∀ p ∈ cs, h.get? p.2 = some { cls := .none, data := .fields #[] }) ∧ (∀ p ∈ cs, K.lookup p.2 = none) ∧ (∀ p ∈ cs, PySem.W.CodeHd h p.1 p.2) ∧ (∀ q ∈ T, ∃ p ∈ cs, q.1 = p.2) ∧ (∀ (s : Shared) (u : Value), BindsTo s fd ⟨[u], []⟩ [(x, u)]) ∧
    (∀ ns : List Int, ns.length ≤ n → (∀ z ∈ ns, Builtin.Int.intBits z ≤ 1048576) → ∃ outs, F [.scr ns] = .ok (.d (.bool true)) outs) ∧
    ∀ base : Heap, K.In base → base.Ns mainGlobals mg → (∀ p ∈ cs, TabB base mg p.1 p.2) → FnG gd l.prog w K mg base k fa fd [x] (spD K T cls 1 F)
theorem walkD {l : PySem.W.OpenLaw} {n k : Nat} {q : Program} {loose : List Str} {XP : (Str → Option Value) → Heap → Prop} {YP : World → Heap → Prop} {d : DefRec} {K : Params → PySem.W.Frag} {x : Str}
    (hn : l.most = some n) (hn2 : n ≤ sizeLine) (hdf : d.params.defaults = []) (hr : Room k callerA) (hY : ∀ (w : World) (h : Heap), YP w h → (K w.params).In h)
    (F : ∀ (w : World) (mg : Str → Option Value) (fa : Addr) (h : Heap), YP w h → (K w.params).In h → h.Ns mainGlobals mg → mg d.name = some (.ref fa) → LawD l w (K w.params) k n x mg fa h) : PySem.W.WalkO q loose XP YP l.row.toRowW d [] (fun f vs => PySem.call f vs) := by
  refine Att.attach_callB hn hdf fun w s₀ s₁ mg mb fa o pm cd doc a vs ns G Y ho hd hcd hmg hobj hints hlen hbits hg => ?_
  obtain ⟨gd, fd, cs, T, cls, Fn', hT, nT, C, hTs, hb, hF, FG⟩ := F w mg fa _ Y (hY w _ Y) G.T.g hmg
  obtain ⟨outs, hF⟩ := hF ns hlen hbits
  exact law_run (hY w _ Y) G.T.g G.T.b G.T.builtins G.T.nolimit hg hT nT C hTs G.T.bmain hobj hints (Nat.le_trans hlen hn2) hr FG hb hF
end
end De

set_option Elab.async false
set_option linter.all false
set_option maxRecDepth 100000
set_option maxHeartbeats 4000000
namespace Dn
open PySem PySem.Spec PyProof.Rows L2
section
variable {K : PySem.W.Frag} {X : Cx} {C : Fr} {f fa fb fc : De} {fr : DeL} {H H' : Hp} {σ : L2.St} {v : V} {x : PyData} {a b c e tg : Expr} {pos : Pos} {env : List Sl} {fs : List (List Addr)} {D : Ends}
/-! ### repr -/
def rRepr (K : PySem.W.Frag) : List V → Hp → VK → Prop := fun vs H Q => ∃ (a : Addr) (d : PyData), vs = [.ref a] ∧ Dp K H (.ref a) d ∧ d.showable = true ∧ d.hasDict = false ∧ d.depth ≤ 60 ∧ d.shown.length ≤ sizeLine ∧ Q (.str d.shown) H
theorem cr_repr (hu : X.A.units + 64 < cLine) (hg : X.A.guards = some []) : CallR X (.builtin "repr") (rRepr X.K) := by
  intro pins s σ H vs us Q I r h
  obtain ⟨a, d, rfl, dp, hs, hd, hz, hl, q⟩ := h
  obtain ⟨u, rfl, ru⟩ := vals1 r
  cases (show u = Value.ref a from ru)
  obtain ⟨as, rd⟩ := Dp.reads I d _ _ dp (show RelV (.ref a) (.ref a) from rfl)
  exact repr_of_reads' rd hs (fun z => absurd z (by rw [hd]; exact Bool.false_ne_true)) hg (by omega) (fun _ _ e => e) (fun h' u tk hk => ⟨.str d.shown, H, I.kept (t' := tk) hk, ⟨u, rfl⟩, q⟩) hl
def isSq : PyData → Bool
  | .list _ => true
  | .tuple _ => true
  | _ => false
def gRepr : List PyData → Option Rv
  | [d] => if isSq d && d.canLay0 && d.showable && !d.hasDict && decide (d.depth ≤ 60) && decide (d.shown.length ≤ lim) then some (.d (.str d.shown)) else none
  | _ => none
theorem cd_repr : CallD K (rRepr K) gRepr := by
  intro H xs vs rv Q ht h k
  match xs, h with
  | [d], h =>
    obtain ⟨v, rfl, tp⟩ := ht.one
    dsimp only [gRepr] at h
    split at h
    · rename_i z
      cases h
      simp only [Bool.and_eq_true, Bool.not_eq_true', decide_eq_true_eq] at z
      obtain ⟨⟨⟨⟨⟨z1, z2⟩, z3⟩, z4⟩, z5⟩, z6⟩ := z
      have q := Tp.dp z2 tp
      cases d with
      | list ds => obtain ⟨a, vs, rfl, _⟩ := tp; exact ⟨a, _, rfl, q, z3, z4, z5, lim_size z6, k _ _ (Ne.same rfl)⟩
      | tuple ds => obtain ⟨a, vs, rfl, _⟩ := tp; exact ⟨a, _, rfl, q, z3, z4, z5, lim_size z6, k _ _ (Ne.same rfl)⟩
      | _ => cases z1
    · cases h
/-! ### range with a step -/
def stepInts (lo c : Int) (n : Nat) : List PyData := (List.range n).map fun (k : Nat) => PyData.int (lo + (k : Nat) * c)
theorem itd_C {lo c : Int} {n : Nat} : ItD K (Itc lo c n) (stepInts lo c n) H where
  go := fun i H' _ hi => by unfold stepInts at hi; simp only [List.length_map, List.length_range] at hi; exact hi
  yld := fun i H' v H2 _ hi hy => by
    unfold stepInts at hi; simp only [List.length_map, List.length_range] at hi
    obtain ⟨rfl, rfl⟩ := hy
    exact ⟨Ex.refl, .int (lo + (i : Nat) * c), by unfold stepInts; rw [List.getElem?_map, List.getElem?_range hi]; rfl, rfl⟩
  stop := fun i H' _ hi => by unfold stepInts at hi; simp only [List.length_map, List.length_range] at hi; exact hi
def iRange3 (fr : DeL) : Di := fun env => (fr env).bind fun rs e => match rs with
  | [.d (.int i), .d (.int j), .d (.int c)] => if decide (c ≠ 0) && decide (c.natAbs < 1073741824) && Builtin.Range.small i j c && decide (0 ≤ Builtin.Range.rangeSize i j c) && decide (Builtin.Range.rangeSize i j c ≤ 10000000) then .ok (stepInts i c (Builtin.Range.rangeSize i j c).toNat) e else .bad
  | _ => .bad
theorem di_range3 {p : Pos} (hg : Gl X "range") (hm : X.mg "range" = none) (ha : PA X [a, b, c] (TAD X.K C fr)) (hs : starEach [a, b, c] X.env = (false, eval a X.env) :: starEach [b, c] X.env := by rfl) (hpl : (backTo pos (starEach [b, c] X.env)).any (·.1) = false := by rfl) : PI X tg (.Call (.Name "range" p) [a, b, c] [] pos) (TID X.K C (iRange3 fr)) :=
  PI.imp (pi_range3 hg hm ha hs hpl) fun σ H R h => by
  obtain ⟨env, fs, E, h⟩ := h
  refine ⟨env, fs, E, h.bind.imp fun rs e1 H1 fs1 _ p1 s1 E1 h1 vs rv => ?_⟩
  match rs, h1, rv with
  | [.d (.int i), .d (.int j), .d (.int c)], h1, rv =>
    obtain ⟨v1, w1, rfl, q1, v2, w2, rfl, q2, v3, w3, rfl, q3, q4⟩ := rv
    have q4 : w3 = [] := q4
    subst q4
    dsimp only at h1
    split at h1
    · rename_i z
      simp only [Bool.and_eq_true, decide_eq_true_eq] at z
      obtain ⟨⟨⟨⟨z1, z2⟩, z3⟩, z5⟩, z4⟩ := z
      exact ⟨i, j, c, _, by rw [show v1 = .int i from q1, show v2 = .int j from q2, show v3 = .int c from q3], ⟨z1, z2, z3, (Int.toNat_of_nonneg z5).symm⟩, h1 H1 fs1 .refl .refl E1 _ itd_C⟩
    · exact h1.elim
/-! ### tuple(range(n)), {} -/
def dTupRg1 (fa : De) : De := fun env => (fa env).bind fun r e => match r with
  | .d (.int n) => if rgOk 0 n then .ok (.d (.tuple (intsFrom 0 (n - 0).toNat))) e else .bad
  | _ => .bad
theorem de_tupRg1 {p p2 pos2 : Pos} (hc : X.calm = true) (hg : Gl X "tuple") (hm : X.mg "tuple" = none) (hg2 : Gl X "range") (hm2 : X.mg "range" = none) (ha : PE X a (TD X.K C fa))
    (na : starEach [a] X.env = (false, eval a X.env) :: starEach [] X.env := by rfl) (na2 : starEach [.Call (.Name "range" p2) [a] [] pos2] X.env = (false, eval (.Call (.Name "range" p2) [a] [] pos2) X.env) :: starEach [] X.env := by rfl) :
    PE X (.Call (.Name "tuple" p) [.Call (.Name "range" p2) [a] [] pos2] [] pos) (TD X.K C (dTupRg1 fa)) := PE.imp (pe_tupRg hc hg hm (prg_1 hg2 hm2 ha na) na2) fun σ H Q h => by
  obtain ⟨env, fs, E, h⟩ := h
  refine ⟨env, fs, E, h.bind.imp fun r e1 H1 fs1 _ p1 s1 E1 h1 x rx => ?_⟩
  match r, h1, rx with
  | .d (.int n), h1, rx =>
    refine ⟨n, rx, ?_⟩
    dsimp only at h1
    split at h1
    · rename_i ho
      simp only [rgOk, small62, Bool.and_eq_true, decide_eq_true_eq] at ho
      refine ⟨⟨by omega, by omega, by omega, by omega, by omega⟩, fun q hq => ?_⟩
      obtain ⟨pp, E', r'⟩ := (ne_tup (K := X.K) hq (rg_ints (a := 0) (b := n))).out E1
      exact h1 _ fs1 pp .refl E' _ (r'.back p1.there)
    · exact h1.elim
def dDct0 : De := fun env => .ok (.ow (.dct [])) env
theorem de_dct0 : PE X (.Dict [] [] pos) (TD X.K C dDct0) := PE.imp pe_dnewK fun σ H Q h => by
  obtain ⟨env, fs, E, h⟩ := h
  intro p hp
  have ne : Ne X.K H (upd H p (.dK [])) (.ow (.dct [])) (.ref p) := ⟨Ex.new hp, [p], ⟨p, [], rfl, rfl, upd_same, rfl⟩, fun a ha => by rw [List.mem_singleton.mp ha]; exact hp⟩
  obtain ⟨pp, E', r'⟩ := ne.out E
  exact h _ fs pp .refl E' _ r'
/-! ### == and != of texts and of empty dicts beside -/
def gEqX : PyData → PyData → Option Rv
  | .str x, .str y => some (.d (.bool (decide (x = y))))
  | .dict [], .dict [] => some (.d (.bool true))
  | .list (_ :: _), .list [] => some (.d (.bool false))
  | _, _ => none
def gNeX : PyData → PyData → Option Rv
  | .str x, .str y => some (.d (.bool (!decide (x = y))))
  | .dict [], .dict [] => some (.d (.bool false))
  | .list (_ :: _), .list [] => some (.d (.bool true))
  | _, _ => none
def rEqX (neg : Bool) : R2 := fun x y H Q => (∃ i j, x = .str i ∧ y = .str j ∧ Q (.bl (neg != decide (i = j))) H) ∨ (∃ a b, x = .ref a ∧ y = .ref b ∧ Rd H a (.dK []) ∧ Rd H b (.dK []) ∧ Q (.bl (!neg)) H) ∨ ∃ a b z zs, x = .ref a ∧ y = .ref b ∧ Rd H a (.lst (z :: zs)) ∧ Rd H b (.lst []) ∧ Q (.bl neg) H
theorem op_eqX (hu : X.A.units + 64 < cLine) : OpR X (compareOp .Eq) (rEqX false) := by
  intro pins s σ H x y v u Q I rx ry h
  rcases h with ⟨i, j, rfl, rfl, q⟩ | ⟨a, b, rfl, rfl, h1, h2, q⟩ | ⟨a, b, z, zs, rfl, rfl, h1, h2, q⟩
  · obtain ⟨t, rfl⟩ := rx
    obtain ⟨t', rfl⟩ := ry
    refine eq_str ⟨.bl (i == j), H, I, rfl, ?_⟩
    rw [Bool.false_bne] at q
    rw [show (i == j) = decide (i = j) from by rw [Bool.eq_iff_iff]; simp]
    exact q
  · cases (show v = Value.ref a from rx)
    cases (show u = Value.ref b from ry)
    obtain ⟨_, l1, vs, k1, d1⟩ := dk_rd I.hok h1
    obtain ⟨_, l2, ws, k2, d2⟩ := dk_rd I.hok h2
    cases k1
    cases k2
    exact PySem.W.keq_eq l1 l2 d1 d2 (by omega) (fun _ => .nil) ⟨.bl true, H, I, rfl, q⟩
  · cases (show v = Value.ref a from rx)
    cases (show u = Value.ref b from ry)
    obtain ⟨its, r1, p1, _⟩ := I.list (.inl h1)
    obtain ⟨its2, r2, p2, _⟩ := I.list (.inl h2)
    cases r2
    cases r1
    exact SeqAt.RcAt.lists_lengths p1.isList p2.isList (by simp) (by omega) _ _ _ _ ⟨.bl false, H, I, rfl, q⟩
theorem op_neX (hu : X.A.units + 64 < cLine) : OpR X (compareOp .NotEq) (rEqX true) := by
  intro pins s σ H x y v u Q I rx ry h
  rcases h with ⟨i, j, rfl, rfl, q⟩ | ⟨a, b, rfl, rfl, h1, h2, q⟩ | ⟨a, b, z, zs, rfl, rfl, h1, h2, q⟩
  · obtain ⟨t, rfl⟩ := rx
    obtain ⟨t', rfl⟩ := ry
    refine ne_str ⟨.bl (i != j), H, I, rfl, ?_⟩
    rw [Bool.true_bne] at q
    rw [show (i != j) = !decide (i = j) from by rw [Bool.eq_iff_iff]; simp]
    exact q
  · cases (show v = Value.ref a from rx)
    cases (show u = Value.ref b from ry)
    obtain ⟨_, l1, vs, k1, d1⟩ := dk_rd I.hok h1
    obtain ⟨_, l2, ws, k2, d2⟩ := dk_rd I.hok h2
    cases k1
    cases k2
    exact PySem.W.keq_ne l1 l2 d1 d2 (by omega) (fun _ => .nil) ⟨.bl false, H, I, rfl, q⟩
  · cases (show v = Value.ref a from rx)
    cases (show u = Value.ref b from ry)
    obtain ⟨its, r1, p1, _⟩ := I.list (.inl h1)
    obtain ⟨its2, r2, p2, _⟩ := I.list (.inl h2)
    cases r2
    cases r1
    exact SeqAt.RcNeAt.lists_lengths p1.isList p2.isList (by simp) (by omega) _ _ _ _ ⟨.bl true, H, I, rfl, q⟩
theorem od_eqX : OpD K (rEqX false) gEqX := by
  intro H x y vx vy rv Q hx hy h k
  unfold gEqX at h
  split at h
  · cases h; exact .inl ⟨_, _, hx, hy, k _ _ (Ne.same (by show V.bl _ = _; rw [Bool.false_bne]))⟩
  · cases h
    obtain ⟨_, a, o, rfl, e⟩ := hx
    obtain ⟨_, b, o2, rfl, e2⟩ := hy
    exact .inr (.inl ⟨a, b, rfl, rfl, .inr ⟨o, e⟩, .inr ⟨o2, e2⟩, k _ _ (Ne.same rfl)⟩)
  · cases h
    obtain ⟨a, vs, rfl, e, f⟩ := hx
    obtain ⟨z, zs, rfl, _, _⟩ := f
    obtain ⟨b, ws, rfl, e2, f2⟩ := hy
    cases (show ws = [] from f2)
    exact .inr (.inr ⟨a, b, z, zs, rfl, rfl, e, e2, k _ _ (Ne.same rfl)⟩)
  · cases h
theorem od_neX : OpD K (rEqX true) gNeX := by
  intro H x y vx vy rv Q hx hy h k
  unfold gNeX at h
  split at h
  · cases h; exact .inl ⟨_, _, hx, hy, k _ _ (Ne.same (by show V.bl _ = _; rw [Bool.true_bne]))⟩
  · cases h
    obtain ⟨_, a, o, rfl, e⟩ := hx
    obtain ⟨_, b, o2, rfl, e2⟩ := hy
    exact .inr (.inl ⟨a, b, rfl, rfl, .inr ⟨o, e⟩, .inr ⟨o2, e2⟩, k _ _ (Ne.same rfl)⟩)
  · cases h
    obtain ⟨a, vs, rfl, e, f⟩ := hx
    obtain ⟨z, zs, rfl, _, _⟩ := f
    obtain ⟨b, ws, rfl, e2, f2⟩ := hy
    cases (show ws = [] from f2)
    exact .inr (.inr ⟨a, b, z, zs, rfl, rfl, e, e2, k _ _ (Ne.same rfl)⟩)
  · cases h
def gEqA := orE gEqX gEq
def gNeA := orE gNeX gNe
theorem op_eqA (hu : X.A.units + 64 < cLine) : OpR X (compareOp .Eq) (fun x y H Q => rEqX false x y H Q ∨ rEqD X.K x y H Q) := (op_eqX hu).or (op_eqD hu)
theorem op_neA (hu : X.A.units + 64 < cLine) : OpR X (compareOp .NotEq) (fun x y H Q => rEqX true x y H Q ∨ rNeD X.K x y H Q) := (op_neX hu).or (op_neD hu)
theorem od_eqA : OpD K (fun x y H Q => rEqX false x y H Q ∨ rEqD K x y H Q) gEqA := OpD.or od_eqX od_eq
theorem od_neA : OpD K (fun x y H Q => rEqX true x y H Q ∨ rNeD K x y H Q) gNeA := OpD.or od_neX od_ne
end
end Dn

set_option Elab.async false
set_option linter.all false
set_option maxRecDepth 100000
set_option maxHeartbeats 4000000
namespace Dn
open PySem PySem.Spec PyProof.Rows L2
def clsBody (s : Stmt) : List Stmt := match s with
  | .ClassDef _ _ _ b _ _ _ _ _ _ _ => b
  | _ => []
section
variable {P : Program} {w : World} {K : PySem.W.Frag} {mg : Str → Option Value} {base : Heap}
/-- fn_den, the frame in parts -/
theorem fn_denX {gd : Bool} {x qual : Str} {st : Stmt} {f : Addr} {fd : FuncData} {N ps : List Str} {k np : Nat} {T : List (Addr × Str)} {cls : Str → Addr} {g : Ds} (F : Fun K x qual st f fd) (S : FnScope N ps (defScope st)) (hnp : ps.length = np) (hN : ps.length ≤ N.length)
    (hbody : ∀ (cdv : Value) (A : Around) (outer : List Env) (s : Shared) (H : Hp) (E : XK) (H0 : Hp) (S0 : L2.St) (F0 : List (List Addr)) (L : List Addr) (W : WX), Room k (A.deeper (envOfC qual (defScope st) s.heap.objs.size f cdv)) → (gd = true → A.guards = some []) → fd.code = cdv →
      Takes (cxOf (L2.CX P w) P w K mg base N qual (defScope st) f cdv A outer s H E) W → PassesOwn (model P w) (A.deeper (envOfC qual (defScope st) s.heap.objs.size f cdv)) (envOfC qual (defScope st) s.heap.objs.size f cdv) (cxOf (L2.CX P w) P w K mg base N qual (defScope st) f cdv A outer s H E).xe →
      PSs (cxOf (L2.CX P w) P w K mg base N qual (defScope st) f cdv A outer s H E) (defBody st) (TSD K ⟨T, H0, S0, F0, L, W, cls⟩ g)) : FnG gd P w K mg base (k + 1) f fd ps (spD K T cls np (runF g N.length)) :=
  fn_den F S hnp hN fun cdv A outer s H E C hT hcls hr hg _ hcode _ tk => by
    obtain ⟨T', H0, S0, F0, L, W, cls'⟩ := C
    cases hT
    cases hcls
    exact hbody cdv A outer s H E H0 S0 F0 L W hr hg hcode tk (passes_of rfl)
theorem kb_ofF {x qual : Str} {st : Stmt} {f : Addr} {fd : FuncData} {ps ks : List Str} {n : Nat} {π : List Nat} (F : Fun K x qual st f fd)
    (h : ∀ (kV doc pm : Value) (an : Option Addr) (cdv ct : Value) (us ws : List Value), us.length = n → ws.length = ks.length → bindArgs (PySem.W.fnOf x qual (defArgs st) (defBody st) (defScope st) .none kV doc pm an cdv ct) ⟨us, ks.zip ws⟩ = pure (ps.zip (permL π .none (us ++ ws)))) : KB K fd ps ks n π := ⟨fun s us ws _ l1 l2 => by
  obtain ⟨oc, od, kV, doc, pm, an, cdv, ct, osl, rfl, lk, hcd⟩ := F.ex
  exact .of_eq (h kV doc pm an cdv ct us ws l1 l2)⟩
end
end Dn

set_option Elab.async false
set_option linter.all false
set_option maxRecDepth 100000
set_option maxHeartbeats 4000000
namespace De
open PySem PySem.Spec PyProof.Rows L2 LamX Dn
/-- the written part without some places -/
def less (K : PySem.W.Frag) (tb : List Addr) : PySem.W.Frag := K.filter fun p => !tb.contains p.1
theorem lookup_less (tb : List Addr) (a : Addr) : ∀ K : PySem.W.Frag, (less K tb).lookup a = if tb.contains a = true then none else K.lookup a
  | [] => by unfold less; simp
  | (b, o) :: r => by
    have ih := lookup_less tb a r
    unfold less at ih ⊢
    rw [List.filter_cons]
    by_cases hb : tb.contains b = true
    · rw [if_neg (by rw [hb]; decide), ih]
      by_cases ha : tb.contains a = true
      · rw [if_pos ha, if_pos ha]
      · rw [if_neg ha, if_neg ha]
        have ne : (a == b) = false := by
          rw [beq_eq_false_iff_ne]; intro z; rw [z] at ha; exact ha hb
        rw [List.lookup_cons, ne]
    · rw [if_pos (by simpa using hb), List.lookup_cons, List.lookup_cons, ih]
      cases h : a == b with
      | true =>
        have z : a = b := by simpa using h
        subst z
        simp only [if_neg hb]
      | false => rfl
theorem less_in {K : PySem.W.Frag} {tb : List Addr} {h : Heap} (X : K.In h) : (less K tb).In h := fun a o e => X a o (by
  rw [lookup_less] at e
  split at e
  · cases e
  · exact e)
theorem codeHd_of {K : PySem.W.Frag} {h : Heap} {c P : Addr} {d : Option Addr} {vs : Array Value} {sl : Array (Option Value)} {file : Str} {flags text : Int} {tf tg tt : Tok} {inF : Bool} (X : K.In h) (l : K.lookup c = some ⟨.type "code", d, .fields vs, sl⟩) (e1 : vs[11]? = some (.ref P)) (e2 : vs.getD 11 .none = .ref P)
    (e3 : vs.getD 18 .none = .str file tf) (e4 : vs.getD 7 .none = .int flags tg) (e5 : vs.getD 9 .none = .bool inF) (e6 : vs.getD 10 .none = .int text tt) (ne : c ≠ P) : PySem.W.CodeHd h c P := ⟨_, vs, file, tf, flags, tg, inF, text, tt, X _ _ l, rfl, rfl, e1, e2, e3, e4, e5, e6, ne⟩
theorem walkDE {l : PySem.W.OpenLaw} {n k : Nat} {q : Program} {loose : List Str} {XP : (Str → Option Value) → Heap → Prop} {YP : World → Heap → Prop} {d : DefRec} {x : Str} (hn : l.most = some n) (hn2 : n ≤ sizeLine) (hdf : d.params.defaults = []) (hr : Room k callerA)
    (F : ∀ (w : World) (mg : Str → Option Value) (fa : Addr) (h : Heap), YP w h → h.Ns mainGlobals mg → mg d.name = some (.ref fa) → ∃ K : PySem.W.Frag, K.In h ∧ LawD l w K k n x mg fa h) : PySem.W.WalkO q loose XP YP l.row.toRowW d [] (fun f vs => PySem.call f vs) := by
  refine Att.attach_callB hn hdf fun w s₀ s₁ mg mb fa o pm cd doc a vs ns G Y ho hd hcd hmg hobj hints hlen hbits hg => ?_
  obtain ⟨K, X, gd, fd, cs, T, cls, Fn', hT, nT, C, hTs, hb, hF, FG⟩ := F w mg fa _ Y G.T.g hmg
  obtain ⟨outs, hF⟩ := hF ns hlen hbits
  exact law_run X G.T.g G.T.b G.T.builtins G.T.nolimit hg hT nT C hTs G.T.bmain hobj hints (Nat.le_trans hlen hn2) hr FG hb hF
end De

set_option Elab.async false
set_option linter.all false
set_option maxRecDepth 100000
set_option maxHeartbeats 4000000
namespace Dn
open PySem PySem.Spec PyProof.Rows L2
/-- the script, handed on -/
def dSv (i : Nat) : De := fun env => match env[i]? with
  | some (.scr _) => .ok (.bo i) env
  | _ => .bad
theorem td_sv {i : Nat} {K : PySem.W.Frag} {C : Fr} {σ : L2.St} {H : Hp} {Q : VK} (h : TD K C (dSv i) σ H Q) : tVar i σ H Q := by
  obtain ⟨env, fs, E, h⟩ := h
  unfold dSv at h
  cases q : env[i]? with
  | none => rw [q] at h; exact h.elim
  | some s =>
    obtain ⟨o, A, h1, h2, h3⟩ := E.sl.get q
    rw [q] at h
    cases s with
    | scr ns =>
      obtain ⟨_, v, e, f⟩ := h3
      subst e
      exact ⟨v, h1, h H fs .refl .refl E v h1⟩
    | _ => exact h.elim
theorem de_sv {X : Cx} {C : Fr} (i : Nat) {x : Str} {pos : Pos} (hN : X.N[i]? = some x := by rfl) (hv : Vis X.env.scope x := by first | exact Or.inl rfl | exact Or.inr (Or.inl rfl) | exact Or.inr (Or.inr rfl)) (hd : (x == ("__debug__" : Str)) = false := by decide)
    (hcd : (x == ("__classdict__" : Str)) = false := by decide) : PE X (.Name x pos) (TD X.K C (dSv i)) := PE.imp (pv i hN hv hd hcd) fun _ _ _ h => td_sv h
end Dn

set_option Elab.async false
set_option linter.all false
set_option maxRecDepth 100000
set_option maxHeartbeats 4000000
namespace K39
open PySem PySem.Spec PyProof.Rows L2 Dn
def top (i : Nat) : Stmt := PySem.Challenge.pw_everysheet_k39_folds_of_one_to_six_panel.main.body.getD i (.Pass ⟨0, 0, 0, 0⟩)
abbrev s__law_draw : Stmt := top 25
abbrev s__law_pick : Stmt := top 26
abbrev s__law_same : Stmt := top 27
abbrev s__law_whole : Stmt := top 29
abbrev s__law_is_layers : Stmt := top 33
abbrev s__law_facing : Stmt := top 34
abbrev s__law_heard : Stmt := top 37
abbrev s_is_whole : Stmt := top 7
abbrev s_is_whole_between : Stmt := top 8
abbrev s_are_layers : Stmt := top 12
abbrev s_facing : Stmt := top 16
abbrev s_do_cross : Stmt := top 13
abbrev s_has_crossing : Stmt := top 14
abbrev s_is_fold : Stmt := top 15
abbrev s__law_do_cross : Stmt := top 31
abbrev s__law_is_flat : Stmt := top 32
abbrev s__law_odd : Stmt := top 35
abbrev s_rows_of_heights : Stmt := top 20
abbrev s_folds_of : Stmt := top 21
abbrev s_is_tuple_of : Stmt := top 9
abbrev s_is_above : Stmt := top 17
abbrev s_need_strip : Stmt := top 18
abbrev s_folds : Stmt := top 22
abbrev s__law_are_refused : Stmt := top 38
abbrev s__law_mixed : Stmt := top 28
abbrev s__law_above : Stmt := top 36
abbrev s__law_orders : Stmt := top 30
abbrev s__law_deck : Stmt := top 24
abbrev s_law : Stmt := top 39
abbrev s_BadPanels : Stmt := (clsBody (top 2)).getD 0 (.Pass ⟨0, 0, 0, 0⟩)
abbrev s_BadAbove : Stmt := (clsBody (top 3)).getD 0 (.Pass ⟨0, 0, 0, 0⟩)
abbrev s_BadLayers : Stmt := (clsBody (top 4)).getD 0 (.Pass ⟨0, 0, 0, 0⟩)
abbrev c_MOST_PANELS : Int := 6
abbrev c_MOST_WHOLE : Int := 1000000000000
abbrev errs : List Str := ["BadAbove", "BadLayers", "BadPanels"]
abbrev dks : DkK := ("cells", "mixed", "draws")
abbrev fuel : Nat := 1000000
def d__law_draw : Ds := dSeq (dPar2 3 4 (dStb (dBin gAdd (dDkI dks 0 true) (dC (.int 1)))) (dStb (dDkI dks 0 false))) (dSeq (dDkSet dks 0 true (dVar 3)) (dSeq (dIfS (dDkNe dks 0) (dSeq (dSet 4 (dStb (dDkPop dks 0))) (dSeq (dIfS (dBin gGeI (dVar 4) (dBin gPowI (dC (.int 10)) (dC (.int 18)))) (dSeq (dDrop (dDkApp dks 0 (dBin gFdivI (dVar 4) (dCallB gMax2 (dCons (dC (.int 2)) (dCons (dVar 1) (dNil))))))) (dRet (dBin gModI (dCallB gInt (dCons (dVar 4) (dNil))) (dVar 1)))) (dPass)) (dSet 4 (dStb (dBin gAdd (dVar 4) (dDkI dks 0 false)))))) (dPass)) (dSeq (dSet 2 (dBin gModI (dCallB gInt (dCons (dBin gMulI (dBin gAdd (dBin gAdd (dBin gModI (dCallB gInt (dCons (dVar 4) (dNil))) (dC (.int 2147483629))) (dBin gMulI (dBin gMulI (dC (.int 60811)) (dVar 3)) (dVar 3))) (dC (.int 23))) (dC (.int 40692))) (dNil))) (dC (.int 2147483647)))) (dSeq (dSet 2 (dBin gModI (dCallB gInt (dCons (dBin gAdd (dBin gAdd (dBin gMulI (dVar 2) (dVar 2)) (dBin gMulI (dC (.int 39373)) (dVar 3))) (dC (.int 37))) (dNil))) (dC (.int 2147483587)))) (dRet (dBin gModI (dCallB gInt (dCons (dBin gFdivI (dBin gModI (dCallB gInt (dCons (dBin gMulI (dVar 2) (dC (.int 48271))) (dNil))) (dC (.int 2147483563))) (dC (.int 64))) (dNil))) (dVar 1)))))))
def F__law_draw : Fn := runF d__law_draw 5
def d__law_pick : Ds := dRet (dBin gIx (dVar 1) (dCall 2 F__law_draw (dCons (dVar 0) (dCons (dSto (dCallB gLen (dCons (dVar 1) (dNil)))) (dNil)))))
def F__law_pick : Fn := runF d__law_pick 2
def d__law_same : Ds := dSeq (dSet 2 (dStb (dLst (dCons (dTup (dCons (dSto (dVar 0)) (dCons (dSto (dVar 1)) (dNil)))) (dNil))))) (dSeq (whileD (dBin gNeA (dVar 2) (dLst (dNil))) (dSeq (dAsgT (pTup 2 (pCons (pName 3) (pCons (pName 4) (pNil)))) (dSto (dPop 2))) (dIfS (dUn (gIsi2 .tup .lst) (dVar 4)) (dSeq (dIfS (dOr (dBin gNeA (dUn (gIsi .tup) (dVar 3)) (dUn (gIsi .tup) (dVar 4))) (dNot (dUn (gIsi2 .tup .lst) (dVar 3)))) (dRet (dC (.bool false))) (dPass)) (dSeq (dIfS (dBin gNeA (dCallB gLen (dCons (dVar 3) (dNil))) (dCallB gLen (dCons (dVar 4) (dNil)))) (dRet (dC (.bool false))) (dPass)) (dDrop (dMeth 2 mExt (dCons (dLZip (dSto (dVar 3)) (dSto (dVar 4))) (dNil)))))) (dIfS (dOr (dBin gIsN (dVar 4) (dC .none)) (dUn (gIsi .dct) (dVar 4))) (dIfS (dIf (dBin gIsN (dVar 4) (dC .none)) (dBin gNotN (dVar 3) (dC .none)) (dOr (dNot (dUn (gIsi .dct) (dVar 3))) (dBin gNeA (dVar 3) (dVar 4)))) (dRet (dC (.bool false))) (dPass)) (dIfS (dUn (gIsi .str) (dVar 4)) (dIfS (dOr (dNot (dUn (gIsi .str) (dVar 3))) (dBin gNeA (dVar 3) (dVar 4))) (dRet (dC (.bool false))) (dPass)) (dIfS (dOr (dNot (dUn (gIsi .int) (dVar 3))) (dOr (dBin gNeA (dUn (gIsi .bool) (dVar 3)) (dUn (gIsi .bool) (dVar 4))) (dBin gNeA (dVar 3) (dVar 4)))) (dRet (dC (.bool false))) (dPass)))))) fuel) (dRet (dC (.bool true))))
def F__law_same : Fn := runF d__law_same 5
def d__law_whole : Ds := dRet (dAnd (dUn (gIsi .int) (dVar 0)) (dNot (dUn (gIsi .bool) (dVar 0))))
def F__law_whole : Fn := runF d__law_whole 1
def d__law_is_layers : Ds := dSeq (dIfS (dOr (dNot (dUn (gIsi .tup) (dVar 0))) (dOr (dNot (dChain gLtA gLtA (dC (.int 0)) (dCallB gLen (dCons (dVar 0) (dNil))) (dC (.int 7)))) (dBin gNeA (dLc (iSeq (dSto (dVar 0))) [1] (pName 1) (dNot (dCall 1 F__law_whole (dCons (dSto (dVar 1)) (dNil)))) (dC (.int 1))) (dLst (dNil))))) (dRet (dC (.bool false))) (dPass)) (dRet (dBin gEqA (dCallB gSorted (dCons (dVar 0) (dNil))) (dListRg1 (dCallB gLen (dCons (dVar 0) (dNil))))))
def F__law_is_layers : Fn := runF d__law_is_layers 2
def d__law_facing : Ds := dSeq (dSet 1 (dStb (dLst (dNil)))) (dSeq (dFor (iRange1 (dCons (dCallB gLen (dCons (dVar 0) (dNil))) (dNil))) (pName 2) (dDrop (dMeth 1 mExt (dCons (dLc (iRange1 (dCons (dVar 2) (dNil))) [3] (pName 3) (dBin gEqA (dCallB gAbs (dCons (dBin gSubI (dBin gIx (dVar 0) (dVar 3)) (dBin gIx (dVar 0) (dVar 2))) (dNil))) (dC (.int 1))) (dTup (dCons (dSto (dVar 3)) (dCons (dSto (dVar 2)) (dNil))))) (dNil))))) (dRet (dCallB gTup (dCons (dCallB gSorted (dCons (dVar 1) (dNil))) (dNil)))))
def F__law_facing : Fn := runF d__law_facing 4
def d_is_whole : Ds := dRet (dAnd (dUn (gIsi .int) (dVar 0)) (dAnd (dNot (dUn (gIsi .bool) (dVar 0))) (dChain gLeI gLeI (dUn gNeg (dC (.int c_MOST_WHOLE))) (dVar 0) (dC (.int c_MOST_WHOLE)))))
def F_is_whole : Fn := runF d_is_whole 1
def d_is_whole_between : Ds := dRet (dAnd (dCall 1 F_is_whole (dCons (dSto (dVar 0)) (dNil))) (dChain gLeI gLeI (dVar 1) (dVar 0) (dVar 2)))
def F_is_whole_between : Fn := runF d_is_whole_between 3
def d_are_layers : Ds := dSeq (dIfS (dOr (dNot (dUn (gIsi .tup) (dVar 0))) (dNot (dChain gLeI gLeI (dC (.int 1)) (dCallB gLen (dCons (dVar 0) (dNil))) (dC (.int c_MOST_PANELS))))) (dRet (dC (.bool false))) (dPass)) (dSeq (dSet 1 (dStb (dCallB gLen (dCons (dVar 0) (dNil))))) (dSeq (dIfS (dNot (dCallB gAllB (dCons (dLc (iSeq (dSto (dVar 0))) [2] (pName 2) (dYes) (dSto (dCall 3 F_is_whole_between (dCons (dSto (dVar 2)) (dCons (dC (.int 0)) (dCons (dBin gSubI (dVar 1) (dC (.int 1))) (dNil))))))) (dNil)))) (dRet (dC (.bool false))) (dPass)) (dRet (dBin gEqA (dCallB gSorted (dCons (dVar 0) (dNil))) (dListRg1 (dVar 1))))))
def F_are_layers : Fn := runF d_are_layers 3
def d_facing : Ds := dSeq (dIfS (dNot (dCall 1 F_are_layers (dCons (dSto (dVar 0)) (dNil)))) (dRaise "BadLayers" (dSto (dVar 0))) (dPass)) (dSeq (dSet 1 (dStb (dCallB gLen (dCons (dVar 0) (dNil))))) (dSeq (dSet 2 (dLc2 (iRange1 (dCons (dVar 1) (dNil))) [3, 4] [4] (pName 3) (dYes) (iRange2 (dCons (dBin gAdd (dVar 3) (dC (.int 1))) (dCons (dVar 1) (dNil)))) (pName 4) (dYes) (dTup (dCons (dSto (dVar 3)) (dCons (dSto (dVar 4)) (dNil)))))) (dRet (dCallB gTup (dCons (dLc (iSeq (dSto (dVar 2))) [3, 4] (pTup 2 (pCons (pName 3) (pCons (pName 4) (pNil)))) (dBin gEqA (dCallB gAbs (dCons (dBin gSubI (dBin gIx (dVar 0) (dVar 3)) (dBin gIx (dVar 0) (dVar 4))) (dNil))) (dC (.int 1))) (dTup (dCons (dSto (dVar 3)) (dCons (dSto (dVar 4)) (dNil))))) (dNil))))))
def F_facing : Fn := runF d_facing 5
def d_do_cross : Ds := dSeq (dAsgT (pTup 2 (pCons (pName 4) (pCons (pName 5) (pNil)))) (dSto (dCallB gSorted (dCons (dLst (dCons (dSto (dBin gIx (dVar 0) (dVar 1))) (dCons (dSto (dBin gIx (dVar 0) (dBin gAdd (dVar 1) (dC (.int 1))))) (dNil)))) (dNil))))) (dSeq (dSet 3 (dLc (iSeq (dSto (dTup (dCons (dSto (dVar 2)) (dCons (dSto (dBin gAdd (dVar 2) (dC (.int 1)))) (dNil)))))) [6] (pName 6) (dYes) (dChain gLtA gLtA (dVar 4) (dBin gIx (dVar 0) (dVar 6)) (dVar 5)))) (dRet (dBin gNeA (dBin gIx (dVar 3) (dC (.int 0))) (dBin gIx (dVar 3) (dC (.int 1))))))
def F_do_cross : Fn := runF d_do_cross 7
def d_has_crossing : Ds := dSeq (dSet 1 (dStb (dCallB gRange (dCons (dBin gSubI (dCallB gLen (dCons (dVar 0) (dNil))) (dC (.int 1))) (dNil))))) (dRet (dCallB gAnyB (dCons (dLc2 (iRng 1) [2, 3] [3] (pName 2) (dYes) (iRng 1) (pName 3) (dAnd (dBin gGtI (dVar 3) (dVar 2)) (dBin gEqA (dBin gModI (dBin gSubI (dVar 3) (dVar 2)) (dC (.int 2))) (dC (.int 0)))) (dSto (dCall 3 F_do_cross (dCons (dSto (dVar 0)) (dCons (dSto (dVar 2)) (dCons (dSto (dVar 3)) (dNil))))))) (dNil))))
def F_has_crossing : Fn := runF d_has_crossing 4
def d_is_fold : Ds := dRet (dAnd (dCall 1 F_are_layers (dCons (dSto (dVar 0)) (dNil))) (dNot (dCall 1 F_has_crossing (dCons (dSto (dVar 0)) (dNil)))))
def F_is_fold : Fn := runF d_is_fold 1
def d__law_do_cross : Ds := dSeq (dAsgT (pTup 2 (pCons (pName 3) (pCons (pName 4) (pNil)))) (dSto (dTup (dCons (dSto (dCallB gMin2 (dCons (dBin gIx (dVar 0) (dVar 1)) (dCons (dBin gIx (dVar 0) (dBin gAdd (dVar 1) (dC (.int 1)))) (dNil))))) (dCons (dSto (dCallB gMax2 (dCons (dBin gIx (dVar 0) (dVar 1)) (dCons (dBin gIx (dVar 0) (dBin gAdd (dVar 1) (dC (.int 1)))) (dNil))))) (dNil)))))) (dRet (dBin gEqA (dCallB gLen (dCons (dLc (iSeq (dSto (dTup (dCons (dSto (dVar 2)) (dCons (dSto (dBin gAdd (dVar 2) (dC (.int 1)))) (dNil)))))) [5] (pName 5) (dChain gLtA gLtA (dVar 3) (dBin gIx (dVar 0) (dVar 5)) (dVar 4)) (dC (.int 1))) (dNil))) (dC (.int 1))))
def F__law_do_cross : Fn := runF d__law_do_cross 6
def d__law_is_flat : Ds := dSeq (dFor (iRange1 (dCons (dBin gSubI (dCallB gLen (dCons (dVar 0) (dNil))) (dC (.int 1))) (dNil))) (pName 1) (dIfS (dBin gNeA (dLc (iRange3 (dCons (dBin gSubI (dVar 1) (dC (.int 2))) (dCons (dUn gNeg (dC (.int 1))) (dCons (dUn gNeg (dC (.int 2))) (dNil))))) [2] (pName 2) (dCall 3 F__law_do_cross (dCons (dSto (dVar 0)) (dCons (dSto (dVar 2)) (dCons (dSto (dVar 1)) (dNil))))) (dSto (dVar 2))) (dLst (dNil))) (dRet (dC (.bool false))) (dPass))) (dRet (dC (.bool true)))
def F__law_is_flat : Fn := runF d__law_is_flat 3
def d__law_odd : Ds := dSeq (dSet 2 (dStb (dLst (dCons (dC .none) (dCons (dTup (dNil)) (dCons (dSto (dLst (dNil))) (dCons (dC (.str "012")) (dCons (dC (.int 0)) (dCons (dSto (dDct0)) (dCons (dSto (dCallB gLst (dCons (dVar 1) (dNil)))) (dCons (dSto (dBin gAdd (dVar 1) (dSlice (dVar 1) (oNo) (oSome (dC (.int 1)))))) (dCons (dSto (dSlice (dVar 1) (oSome (dC (.int 1))) (oNo))) (dCons (dSto (dBin gAdd (dVar 1) (dTup (dCons (dSto (dCallB gLen (dCons (dVar 1) (dNil)))) (dNil))))) (dCons (dTup (dCons (dSto (dVar 1)) (dNil))) (dNil))))))))))))))) (dSeq (dSet 2 (dStb (dBin gAdd (dVar 2) (dLst (dCons (dSto (dCallB gTup (dCons (dLc (iSeq (dSto (dVar 1))) [3] (pName 3) (dYes) (dSto (dBin gAdd (dVar 3) (dC (.int 1))))) (dNil)))) (dCons (dSto (dCallB gTup (dCons (dLc (iSeq (dSto (dVar 1))) [3] (pName 3) (dYes) (dBin gSubI (dC (.int 0)) (dVar 3))) (dNil)))) (dCons (dSto (dCallB gTup (dCons (dLc (iSeq (dSto (dVar 1))) [3] (pName 3) (dYes) (dBin gEqA (dVar 3) (dC (.int 1)))) (dNil)))) (dNil)))))))) (dSeq (dSet 2 (dStb (dBin gAdd (dVar 2) (dLst (dCons (dSto (dCallB gTup (dCons (dLc (iSeq (dSto (dVar 1))) [3] (pName 3) (dYes) (dSto (dIf (dBin gEqA (dVar 3) (dC (.int 1))) (dC (.bool true)) (dVar 3)))) (dNil)))) (dCons (dSto (dCallB gTup (dCons (dLc (iSeq (dSto (dVar 1))) [3] (pName 3) (dYes) (dSto (dIf (dBin gEqA (dVar 3) (dC (.int 0))) (dC (.bool false)) (dVar 3)))) (dNil)))) (dNil))))))) (dRet (dCall 2 F__law_pick (dCons (dVar 0) (dCons (dSto (dBin gAdd (dVar 2) (dLst (dCons (dSto (dCallB gTup (dCons (dLc (iSeq (dSto (dVar 1))) [3] (pName 3) (dYes) (dSto (dCallB gStr (dCons (dVar 3) (dNil))))) (dNil)))) (dCons (dSto (dTupRg1 (dC (.int 7)))) (dCons (dSto (dCallB gTup (dCons (dBin gAdd (dLst (dCons (dC .none) (dNil))) (dCallB gLst (dCons (dSlice (dVar 1) (oSome (dC (.int 1))) (oNo)) (dNil)))) (dNil)))) (dNil))))))) (dNil)))))))
def F__law_odd : Fn := runF d__law_odd 4
def d_rows_of_heights : Ds := dSeq (dSet 1 (dStb (dLst (dCons (dTup (dNil)) (dNil))))) (dSeq (dFor (iRange1 (dCons (dVar 0) (dNil))) (pName 2) (dSet 1 (dLc2 (iSeq (dSto (dVar 1))) [3, 4] [4] (pName 3) (dYes) (iRange1 (dCons (dVar 0) (dNil))) (pName 4) (dBin (gIn true) (dVar 4) (dVar 3)) (dSto (dBin gAdd (dVar 3) (dTup (dCons (dSto (dVar 4)) (dNil)))))))) (dRet (dVar 1)))
def F_rows_of_heights : Fn := runF d_rows_of_heights 5
def d_folds_of : Ds := dSeq (dSet 2 (dStb (dLst (dNil)))) (dSeq (dFor (iSeq (dSto (dCall 1 F_rows_of_heights (dCons (dSto (dVar 0)) (dNil))))) (pName 3) (dIfS (dAnd (dCallB gAllB (dCons (dLc (iSeq (dSto (dVar 1))) [4, 5] (pTup 2 (pCons (pName 4) (pCons (pName 5) (pNil)))) (dYes) (dBin gGtI (dBin gIx (dVar 3) (dVar 4)) (dBin gIx (dVar 3) (dVar 5)))) (dNil))) (dNot (dCall 1 F_has_crossing (dCons (dSto (dVar 3)) (dNil))))) (dDrop (dMeth 2 mApp (dCons (dSto (dVar 3)) (dNil)))) (dPass))) (dRet (dVar 2)))
def F_folds_of : Fn := runF d_folds_of 6
def d_is_tuple_of : Ds := dRet (dAnd (dUn (gIsi .tup) (dVar 0)) (dBin gEqA (dCallB gLen (dCons (dVar 0) (dNil))) (dVar 1)))
def F_is_tuple_of : Fn := runF d_is_tuple_of 2
def d_is_above : Ds := dSeq (dIfS (dOr (dNot (dUn (gIsi .tup) (dVar 1))) (dBin gGtI (dCallB gLen (dCons (dVar 1) (dNil))) (dBin gMulI (dVar 0) (dVar 0)))) (dRet (dC (.bool false))) (dPass)) (dSeq (dFor (iSeq (dSto (dVar 1))) (pName 2) (dSeq (dIfS (dOr (dNot (dCall 2 F_is_tuple_of (dCons (dSto (dVar 2)) (dCons (dC (.int 2)) (dNil))))) (dNot (dCallB gAllB (dCons (dLc (iSeq (dSto (dVar 2))) [5] (pName 5) (dYes) (dSto (dCall 3 F_is_whole_between (dCons (dSto (dVar 5)) (dCons (dC (.int 0)) (dCons (dBin gSubI (dVar 0) (dC (.int 1))) (dNil))))))) (dNil))))) (dRet (dC (.bool false))) (dPass)) (dIfS (dBin gEqA (dBin gIx (dVar 2) (dC (.int 0))) (dBin gIx (dVar 2) (dC (.int 1)))) (dRet (dC (.bool false))) (dPass)))) (dRet (dCallB gAllB (dCons (dLc (iZip (dSto (dVar 1)) (dSto (dSlice (dVar 1) (oSome (dC (.int 1))) (oNo)))) [3, 4] (pTup 2 (pCons (pName 3) (pCons (pName 4) (pNil)))) (dYes) (dBin gLtA (dVar 3) (dVar 4))) (dNil)))))
def F_is_above : Fn := runF d_is_above 6
def d_need_strip : Ds := dSeq (dIfS (dNot (dCall 3 F_is_whole_between (dCons (dSto (dVar 0)) (dCons (dC (.int 1)) (dCons (dSto (dC (.int c_MOST_PANELS))) (dNil)))))) (dRaise "BadPanels" (dSto (dVar 0))) (dPass)) (dIfS (dNot (dCall 2 F_is_above (dCons (dSto (dVar 0)) (dCons (dSto (dVar 1)) (dNil))))) (dRaise "BadAbove" (dSto (dVar 1))) (dPass))
def F_need_strip : Fn := runF d_need_strip 2
def d_folds : Ds := dSeq (dDrop (dCall 2 F_need_strip (dCons (dSto (dVar 0)) (dCons (dSto (dVar 1)) (dNil))))) (dRet (dCallB gTup (dCons (dCall 2 F_folds_of (dCons (dSto (dVar 0)) (dCons (dSto (dVar 1)) (dNil)))) (dNil))))
def F_folds : Fn := runF d_folds 2
def d__law_are_refused : Ds := dSeq (dSet 3 (dStb (dCall 2 F__law_pick (dCons (dVar 0) (dCons (dSto (dLst (dCons (dC .none) (dCons (dSto (dUn gNeg (dC (.int 1)))) (dCons (dC (.bool true)) (dCons (dC (.str "3")) (dCons (dTup (dCons (dC (.int 3)) (dNil))) (dCons (dSto (dLst (dNil))) (dCons (dC (.bool false)) (dCons (dC (.int 0)) (dCons (dC (.int 7)) (dCons (dBin gPowI (dC (.int 10)) (dC (.int 6))) (dNil))))))))))))) (dNil)))))) (dSeq (dSet 4 (dStb (dLst (dCons (dC .none) (dCons (dSto (dCallB gLst (dCons (dVar 2) (dNil)))) (dCons (dTup (dCons (dTup (dCons (dC (.int 0)) (dCons (dC (.int 0)) (dNil)))) (dNil))) (dCons (dTup (dCons (dTup (dCons (dC (.int 0)) (dCons (dSto (dVar 1)) (dNil)))) (dNil))) (dCons (dTup (dCons (dTup (dCons (dSto (dUn gNeg (dC (.int 1)))) (dCons (dC (.int 0)) (dNil)))) (dNil))) (dCons (dTup (dCons (dTup (dCons (dC (.int 0)) (dNil))) (dNil))) (dCons (dTup (dCons (dTup (dCons (dC (.int 0)) (dCons (dC (.int 1)) (dCons (dC (.int 2)) (dNil))))) (dNil))) (dCons (dTup (dCons (dC (.int 0)) (dCons (dC (.int 1)) (dNil)))) (dCons (dC (.str "01")) (dCons (dTup (dCons (dSto (dLst (dCons (dC (.int 0)) (dCons (dC (.int 1)) (dNil))))) (dNil))) (dCons (dTup (dCons (dTup (dCons (dC (.int 0)) (dCons (dC .none) (dNil)))) (dNil))) (dCons (dTup (dCons (dTup (dCons (dSto (dVar 1)) (dCons (dC (.int 0)) (dNil)))) (dNil))) (dNil)))))))))))))))) (dSeq (dSet 4 (dStb (dBin gAdd (dVar 4) (dLst (dCons (dTup (dCons (dTup (dCons (dC (.int 1)) (dCons (dC (.int 0)) (dNil)))) (dCons (dTup (dCons (dC (.int 0)) (dCons (dC (.int 1)) (dNil)))) (dNil)))) (dCons (dTup (dCons (dTup (dCons (dC (.int 0)) (dCons (dC (.int 1)) (dNil)))) (dCons (dTup (dCons (dC (.int 0)) (dCons (dC (.int 1)) (dNil)))) (dNil)))) (dCons (dTup (dCons (dTup (dCons (dC (.int 0)) (dCons (dC (.bool true)) (dNil)))) (dNil))) (dCons (dTup (dCons (dTup (dCons (dC (.bool false)) (dCons (dC (.int 1)) (dNil)))) (dNil))) (dNil))))))))) (dSeq (dSet 5 (dStb (dCall 2 F__law_pick (dCons (dVar 0) (dCons (dSto (dVar 4)) (dNil)))))) (dSeq (dSet 6 (dStb (dLst (dCons (dSto (dHeard errs [("BadPanels", hT3 "panels"), ("BadAbove", hT3 "above"), ("BadLayers", hT3 "layers")] false "told" (dSto (dCall 2 F_folds (dCons (dSto (dVar 3)) (dCons (dSto (dVar 5)) (dNil))))))) (dNil))))) (dSeq (dDrop (dMeth 6 mApp (dCons (dSto (dHeard errs [("BadPanels", hT3 "panels"), ("BadAbove", hT3 "above"), ("BadLayers", hT3 "layers")] false "told" (dSto (dCallK 2 F_folds 0 2 [1, 0] dNil (dCons (dTup (dNil)) (dCons (dSto (dVar 3)) (dNil))))))) (dNil)))) (dSeq (dDrop (dMeth 6 mApp (dCons (dSto (dHeard errs [("BadPanels", hT3 "panels"), ("BadAbove", hT3 "above"), ("BadLayers", hT3 "layers")] false "told" (dSto (dCallK 2 F_folds 0 2 [1, 0] dNil (dCons (dSto (dVar 5)) (dCons (dSto (dVar 1)) (dNil))))))) (dNil)))) (dRet (dCall 2 F__law_same (dCons (dSto (dVar 6)) (dCons (dSto (dLst (dCons (dTup (dCons (dC (.str "panels")) (dCons (dSto (dVar 3)) (dCons (dC (.bool true)) (dNil))))) (dCons (dTup (dCons (dC (.str "panels")) (dCons (dSto (dVar 3)) (dCons (dC (.bool true)) (dNil))))) (dCons (dTup (dCons (dC (.str "above")) (dCons (dSto (dVar 5)) (dCons (dC (.bool true)) (dNil))))) (dNil)))))) (dNil)))))))))))
def F__law_are_refused : Fn := runF d__law_are_refused 7
def d__law_mixed : Ds := dSeq (dPar2 2 3 (dStb (dCallB gLst (dCons (dVar 1) (dNil)))) (dStb (dLst (dNil)))) (dSeq (whileD (dBin gNeA (dVar 2) (dLst (dNil))) (dDrop (dMeth 3 mApp (dCons (dSto (dMeth 2 mPopAt (dCons (dCall 2 F__law_draw (dCons (dVar 0) (dCons (dSto (dCallB gLen (dCons (dVar 2) (dNil)))) (dNil)))) (dNil)))) (dNil)))) fuel) (dRet (dVar 3)))
def F__law_mixed : Fn := runF d__law_mixed 4
def d__law_above : Ds := dSeq (dSet 3 (dStb (dLst (dNil)))) (dSeq (dFor (iRange1 (dCons (dVar 1) (dNil))) (pName 4) (dDrop (dMeth 3 mExt (dCons (dLc (iRange1 (dCons (dVar 1) (dNil))) [6] (pName 6) (dBin gNeA (dVar 4) (dVar 6)) (dTup (dCons (dSto (dVar 4)) (dCons (dSto (dVar 6)) (dNil))))) (dNil))))) (dSeq (dSet 5 (dStb (dCall 2 F__law_draw (dCons (dVar 0) (dCons (dC (.int 5)) (dNil)))))) (dSeq (dIfS (dBin gLtA (dVar 5) (dC (.int 3))) (dSet 3 (dLc (iSeq (dSto (dVar 3))) [4, 6] (pTup 2 (pCons (pName 4) (pCons (pName 6) (pNil)))) (dBin gGtI (dBin gIx (dVar 2) (dVar 4)) (dBin gIx (dVar 2) (dVar 6))) (dTup (dCons (dSto (dVar 4)) (dCons (dSto (dVar 6)) (dNil)))))) (dPass)) (dSeq (dIfS (dBin gEqA (dVar 5) (dC (.int 3))) (dSeq (dSet 3 (dLc (iRange1 (dCons (dBin gSubI (dVar 1) (dC (.int 1))) (dNil))) [4] (pName 4) (dYes) (dSto (dIf (dBin gEqA (dCall 2 F__law_draw (dCons (dVar 0) (dCons (dC (.int 2)) (dNil)))) (dC (.int 0))) (dTup (dCons (dSto (dVar 4)) (dCons (dSto (dBin gAdd (dVar 4) (dC (.int 1)))) (dNil)))) (dTup (dCons (dSto (dBin gAdd (dVar 4) (dC (.int 1)))) (dCons (dSto (dVar 4)) (dNil)))))))) (dRet (dCallB gTup (dCons (dCallB gSorted (dCons (dVar 3) (dNil))) (dNil))))) (dPass)) (dRet (dCallB gTup (dCons (dCallB gSorted (dCons (dSlice (dCall 2 F__law_mixed (dCons (dVar 0) (dCons (dSto (dVar 3)) (dNil)))) (oNo) (oSome (dCall 2 F__law_pick (dCons (dVar 0) (dCons (dSto (dLst (dCons (dC (.int 0)) (dCons (dC (.int 1)) (dCons (dC (.int 2)) (dCons (dC (.int 3)) (dCons (dC (.int 6)) (dNil)))))))) (dNil)))))) (dNil))) (dNil))))))))
def F__law_above : Fn := runF d__law_above 7
def d__law_orders : Ds := dSeq (dSet 1 (dStb (dLst (dCons (dTup (dNil)) (dNil))))) (dSeq (dFor (iRange1 (dCons (dVar 0) (dNil))) (pName 2) (dSeq (dSet 3 (dStb (dLst (dNil)))) (dSeq (dFor (iSeq (dSto (dCallB gLst (dCons (dVar 1) (dNil))))) (pName 4) (dDrop (dMeth 3 mExt (dCons (dLc (iRange1 (dCons (dVar 0) (dNil))) [5] (pName 5) (dBin (gIn true) (dVar 5) (dVar 4)) (dSto (dBin gAdd (dVar 4) (dTup (dCons (dSto (dVar 5)) (dNil)))))) (dNil))))) (dSet 1 (dStb (dVar 3)))))) (dRet (dVar 1)))
def F__law_orders : Fn := runF d__law_orders 6
def d__law_deck : Ds := dSeq (dPar2 3 4 (dStb (dCallB gLst (dCons (dScrCut 0 (oNo) (oSome (dC (.int 63)))) (dNil)))) (dStb (dBin gAdd (dC (.int 21492000)) (dVar 1)))) (dSeq (dFor (iSeq (dSto (dVar 3))) (pName 2) (dSet 4 (dBin gModI (dCallB gInt (dCons (dBin gAdd (dBin gAdd (dBin gMulI (dVar 4) (dC (.int 48271))) (dBin gModI (dCallB gInt (dCons (dVar 2) (dNil))) (dC (.int 2147483587)))) (dC (.int 61))) (dNil))) (dC (.int 2147483629))))) (dRet (dDkNew dks (dRevL (dVar 3)) (dVar 4) (dC (.int 0)))))
def F__law_deck : Fn := runF d__law_deck 5
def d_law : Ds := dSeq (dSet 1 (dStb (dCall 2 F__law_deck (dCons (dSv 0) (dCons (dC (.int 39)) (dNil)))))) (dSeq (dSet 2 (dStb (dCall 2 F__law_pick (dCons (dVar 1) (dCons (dSto (dLst (dCons (dC (.int 1)) (dCons (dC (.int 2)) (dCons (dC (.int 3)) (dCons (dC (.int 4)) (dCons (dC (.int 4)) (dCons (dC (.int 5)) (dCons (dC (.int 5)) (dCons (dC (.int 6)) (dNil))))))))))) (dNil)))))) (dSeq (dSet 3 (dStb (dCall 1 F__law_orders (dCons (dSto (dVar 2)) (dNil))))) (dSeq (dSet 4 (dLc (iSeq (dSto (dVar 3))) [9] (pName 9) (dCall 1 F__law_is_flat (dCons (dSto (dVar 9)) (dNil))) (dSto (dVar 9)))) (dSeq (dSet 5 (dStb (dBin gIx (dLst (dCons (dC (.int 1)) (dCons (dC (.int 2)) (dCons (dC (.int 6)) (dCons (dC (.int 16)) (dCons (dC (.int 50)) (dCons (dC (.int 144)) (dNil)))))))) (dBin gSubI (dVar 2) (dC (.int 1)))))) (dSeq (dSet 6 (dStb (dIf (dBin gEqA (dCall 2 F__law_draw (dCons (dVar 1) (dCons (dC (.int 2)) (dNil)))) (dC (.int 0))) (dCall 2 F_folds (dCons (dSto (dVar 2)) (dCons (dTup (dNil)) (dNil)))) (dCallK 2 F_folds 0 2 [1, 0] dNil (dCons (dTup (dNil)) (dCons (dSto (dVar 2)) (dNil))))))) (dSeq (dIfS (dOr (dBin gNeA (dCallB gLen (dCons (dVar 4) (dNil))) (dVar 5)) (dNot (dCall 2 F__law_same (dCons (dSto (dVar 6)) (dCons (dSto (dCallB gTup (dCons (dVar 4) (dNil)))) (dNil)))))) (dRet (dC (.bool false))) (dPass)) (dSeq (dFor (iRange1 (dCons (dC (.int 3)) (dNil))) (pName 7) (dSeq (dSet 8 (dStb (dCall 3 F__law_above (dCons (dVar 1) (dCons (dSto (dVar 2)) (dCons (dSto (dCall 2 F__law_pick (dCons (dVar 1) (dCons (dSto (dVar 4)) (dNil))))) (dNil))))))) (dSeq (dSet 10 (dStb (dCallB gTup (dCons (dLc (iSeq (dSto (dVar 4))) [9] (pName 9) (dBin gEqA (dLc (iSeq (dSto (dVar 8))) [14, 15] (pTup 2 (pCons (pName 14) (pCons (pName 15) (pNil)))) (dBin gLtA (dBin gIx (dVar 9) (dVar 14)) (dBin gIx (dVar 9) (dVar 15))) (dC (.int 1))) (dLst (dNil))) (dSto (dVar 9))) (dNil))))) (dSeq (dSet 11 (dStb (dCallB gRepr (dCons (dVar 8) (dNil))))) (dSeq (dIfS (dOr (dNot (dCall 2 F__law_same (dCons (dSto (dLst (dCons (dSto (dCall 2 F_folds (dCons (dSto (dVar 2)) (dCons (dSto (dVar 8)) (dNil))))) (dCons (dSto (dCallK 2 F_folds 0 2 [1, 0] dNil (dCons (dSto (dVar 8)) (dCons (dSto (dVar 2)) (dNil))))) (dNil))))) (dCons (dSto (dLst (dCons (dSto (dVar 10)) (dCons (dSto (dVar 10)) (dNil))))) (dNil))))) (dBin gNeA (dCallB gRepr (dCons (dVar 8) (dNil))) (dVar 11))) (dRet (dC (.bool false))) (dPass)) (dIfS (dNot (dCall 3 F__law_are_refused (dCons (dVar 1) (dCons (dSto (dVar 2)) (dCons (dSto (dVar 8)) (dNil)))))) (dRet (dC (.bool false))) (dPass))))))) (dSeq (dSet 8 (dStb (dCallB gTup (dCons (dCallB gSorted (dCons (dLc (iRange1 (dCons (dBin gSubI (dVar 2) (dC (.int 1))) (dNil))) [14] (pName 14) (dYes) (dSto (dIf (dBin gEqA (dCall 2 F__law_draw (dCons (dVar 1) (dCons (dC (.int 2)) (dNil)))) (dC (.int 0))) (dTup (dCons (dSto (dVar 14)) (dCons (dSto (dBin gAdd (dVar 14) (dC (.int 1)))) (dNil)))) (dTup (dCons (dSto (dBin gAdd (dVar 14) (dC (.int 1)))) (dCons (dSto (dVar 14)) (dNil))))))) (dNil))) (dNil))))) (dSeq (dSet 6 (dStb (dCall 2 F_folds (dCons (dSto (dVar 2)) (dCons (dSto (dVar 8)) (dNil)))))) (dSeq (dIfS (dOr (dNot (dUn (gIsi .tup) (dVar 6))) (dBin gEqA (dVar 6) (dTup (dNil)))) (dRet (dC (.bool false))) (dPass)) (dSeq (dFor (iSeq (dSto (dBin gAdd (dLc (iRange1 (dCons (dC (.int 8)) (dNil))) [7] (pName 7) (dYes) (dSto (dCall 2 F__law_pick (dCons (dVar 1) (dCons (dSto (dVar 3)) (dNil)))))) (dLc (iRange1 (dCons (dC (.int 4)) (dNil))) [7] (pName 7) (dYes) (dSto (dCall 2 F__law_pick (dCons (dVar 1) (dCons (dSto (dVar 4)) (dNil))))))))) (pName 9) (dSeq (dPar2 10 13 (dStb (dCall 1 F__law_is_flat (dCons (dSto (dVar 9)) (dNil)))) (dStb (dCall 1 F__law_facing (dCons (dSto (dVar 9)) (dNil))))) (dSeq (dIfS (dNot (dCall 2 F__law_same (dCons (dSto (dLst (dCons (dSto (dCall 1 F_is_fold (dCons (dSto (dVar 9)) (dNil)))) (dCons (dSto (dCallK 1 F_is_fold 0 1 [0] dNil (dCons (dSto (dVar 9)) (dNil)))) (dCons (dSto (dCall 1 F_facing (dCons (dSto (dVar 9)) (dNil)))) (dCons (dSto (dCallK 1 F_facing 0 1 [0] dNil (dCons (dSto (dVar 9)) (dNil)))) (dNil))))))) (dCons (dSto (dLst (dCons (dSto (dVar 10)) (dCons (dSto (dVar 10)) (dCons (dSto (dVar 13)) (dCons (dSto (dVar 13)) (dNil))))))) (dNil))))) (dRet (dC (.bool false))) (dPass)) (dSeq (dSet 12 (dStb (dCall 2 F__law_odd (dCons (dVar 1) (dCons (dSto (dVar 9)) (dNil)))))) (dSeq (dSet 10 (dStb (dAnd (dCall 1 F__law_is_layers (dCons (dSto (dVar 12)) (dNil))) (dCall 1 F__law_is_flat (dCons (dSto (dVar 12)) (dNil)))))) (dSeq (dIfS (dNot (dCall 2 F__law_same (dCons (dSto (dLst (dCons (dSto (dCall 1 F_is_fold (dCons (dSto (dVar 12)) (dNil)))) (dCons (dSto (dCallK 1 F_is_fold 0 1 [0] dNil (dCons (dSto (dVar 12)) (dNil)))) (dNil))))) (dCons (dSto (dLst (dCons (dSto (dVar 10)) (dCons (dSto (dVar 10)) (dNil))))) (dNil))))) (dRet (dC (.bool false))) (dPass)) (dSeq (dSet 6 (dStb (dHeard errs [("BadPanels", hT3 "panels"), ("BadAbove", hT3 "above"), ("BadLayers", hT3 "layers")] false "told" (dSto (dCall 1 F_facing (dCons (dSto (dVar 12)) (dNil))))))) (dIfS (dNot (dCall 2 F__law_same (dCons (dSto (dVar 6)) (dCons (dSto (dIf (dCall 1 F__law_is_layers (dCons (dSto (dVar 12)) (dNil))) (dTup (dCons (dC (.str "told")) (dCons (dSto (dCall 1 F__law_facing (dCons (dSto (dVar 12)) (dNil)))) (dNil)))) (dTup (dCons (dC (.str "layers")) (dCons (dSto (dVar 12)) (dCons (dC (.bool true)) (dNil))))))) (dNil))))) (dRet (dC (.bool false))) (dPass))))))))) (dRet (dC (.bool true))))))))))))))
def F_law : Fn := runF d_law 16
structure Adr where
  f__law_draw : Addr
  d__law_draw : FuncData
  f__law_pick : Addr
  d__law_pick : FuncData
  f__law_same : Addr
  d__law_same : FuncData
  f__law_whole : Addr
  d__law_whole : FuncData
  f__law_is_layers : Addr
  d__law_is_layers : FuncData
  f__law_facing : Addr
  d__law_facing : FuncData
  f__law_heard : Addr
  d__law_heard : FuncData
  f_is_whole : Addr
  d_is_whole : FuncData
  f_is_whole_between : Addr
  d_is_whole_between : FuncData
  f_are_layers : Addr
  d_are_layers : FuncData
  f_facing : Addr
  d_facing : FuncData
  f_do_cross : Addr
  d_do_cross : FuncData
  f_has_crossing : Addr
  d_has_crossing : FuncData
  f_is_fold : Addr
  d_is_fold : FuncData
  f__law_do_cross : Addr
  d__law_do_cross : FuncData
  f__law_is_flat : Addr
  d__law_is_flat : FuncData
  f__law_odd : Addr
  d__law_odd : FuncData
  f_rows_of_heights : Addr
  d_rows_of_heights : FuncData
  f_folds_of : Addr
  d_folds_of : FuncData
  f_is_tuple_of : Addr
  d_is_tuple_of : FuncData
  f_is_above : Addr
  d_is_above : FuncData
  f_need_strip : Addr
  d_need_strip : FuncData
  f_folds : Addr
  d_folds : FuncData
  f__law_are_refused : Addr
  d__law_are_refused : FuncData
  f__law_mixed : Addr
  d__law_mixed : FuncData
  f__law_above : Addr
  d__law_above : FuncData
  f__law_orders : Addr
  d__law_orders : FuncData
  f__law_deck : Addr
  d__law_deck : FuncData
  f_law : Addr
  d_law : FuncData
  c_BadAbove : Addr
  i_BadAbove : Addr
  j_BadAbove : FuncData
  c_BadLayers : Addr
  i_BadLayers : Addr
  j_BadLayers : FuncData
  c_BadPanels : Addr
  i_BadPanels : Addr
  j_BadPanels : FuncData
  c_SheetError : Addr
  t_MOST_PANELS : Tok
  t_MOST_WHOLE : Tok
  o__law_are_refused : Addr
  p__law_are_refused : Addr
  o_law : Addr
  p_law : Addr
def Adr.T (A : Adr) : List (Addr × Str) := [(A.p__law_are_refused, ((("_law_are_refused" : Str) ++ ".<locals>.") ++ "<lambda>")), (A.p_law, ((("law" : Str) ++ ".<locals>.") ++ "<lambda>"))]
def Adr.cls (A : Adr) (s : Str) : Addr := if s = "BadAbove" then A.c_BadAbove else if s = "BadLayers" then A.c_BadLayers else if s = "BadPanels" then A.c_BadPanels else 0
structure Txt (K : PySem.W.Frag) (mg : Str → Option Value) (A : Adr) : Prop where
  n_abs : mg "abs" = none
  n_all : mg "all" = none
  n_any : mg "any" = none
  n_bool : mg "bool" = none
  n_dict : mg "dict" = none
  n_int : mg "int" = none
  n_isinstance : mg "isinstance" = none
  n_len : mg "len" = none
  n_list : mg "list" = none
  n_max : mg "max" = none
  n_min : mg "min" = none
  n_range : mg "range" = none
  n_repr : mg "repr" = none
  n_sorted : mg "sorted" = none
  n_str : mg "str" = none
  n_tuple : mg "tuple" = none
  n_zip : mg "zip" = none
  v_MOST_PANELS : mg "MOST_PANELS" = some (.int c_MOST_PANELS A.t_MOST_PANELS)
  v_MOST_WHOLE : mg "MOST_WHOLE" = some (.int c_MOST_WHOLE A.t_MOST_WHOLE)
  g__law_draw : mg "_law_draw" = some (.ref A.f__law_draw)
  F__law_draw : Fun K "_law_draw" "_law_draw" s__law_draw A.f__law_draw A.d__law_draw
  g__law_pick : mg "_law_pick" = some (.ref A.f__law_pick)
  F__law_pick : Fun K "_law_pick" "_law_pick" s__law_pick A.f__law_pick A.d__law_pick
  g__law_same : mg "_law_same" = some (.ref A.f__law_same)
  F__law_same : Fun K "_law_same" "_law_same" s__law_same A.f__law_same A.d__law_same
  g__law_whole : mg "_law_whole" = some (.ref A.f__law_whole)
  F__law_whole : Fun K "_law_whole" "_law_whole" s__law_whole A.f__law_whole A.d__law_whole
  g__law_is_layers : mg "_law_is_layers" = some (.ref A.f__law_is_layers)
  F__law_is_layers : Fun K "_law_is_layers" "_law_is_layers" s__law_is_layers A.f__law_is_layers A.d__law_is_layers
  g__law_facing : mg "_law_facing" = some (.ref A.f__law_facing)
  F__law_facing : Fun K "_law_facing" "_law_facing" s__law_facing A.f__law_facing A.d__law_facing
  g__law_heard : mg "_law_heard" = some (.ref A.f__law_heard)
  F__law_heard : Fun K "_law_heard" "_law_heard" s__law_heard A.f__law_heard A.d__law_heard
  g_is_whole : mg "is_whole" = some (.ref A.f_is_whole)
  F_is_whole : Fun K "is_whole" "is_whole" s_is_whole A.f_is_whole A.d_is_whole
  g_is_whole_between : mg "is_whole_between" = some (.ref A.f_is_whole_between)
  F_is_whole_between : Fun K "is_whole_between" "is_whole_between" s_is_whole_between A.f_is_whole_between A.d_is_whole_between
  g_are_layers : mg "are_layers" = some (.ref A.f_are_layers)
  F_are_layers : Fun K "are_layers" "are_layers" s_are_layers A.f_are_layers A.d_are_layers
  g_facing : mg "facing" = some (.ref A.f_facing)
  F_facing : Fun K "facing" "facing" s_facing A.f_facing A.d_facing
  g_do_cross : mg "do_cross" = some (.ref A.f_do_cross)
  F_do_cross : Fun K "do_cross" "do_cross" s_do_cross A.f_do_cross A.d_do_cross
  g_has_crossing : mg "has_crossing" = some (.ref A.f_has_crossing)
  F_has_crossing : Fun K "has_crossing" "has_crossing" s_has_crossing A.f_has_crossing A.d_has_crossing
  g_is_fold : mg "is_fold" = some (.ref A.f_is_fold)
  F_is_fold : Fun K "is_fold" "is_fold" s_is_fold A.f_is_fold A.d_is_fold
  g__law_do_cross : mg "_law_do_cross" = some (.ref A.f__law_do_cross)
  F__law_do_cross : Fun K "_law_do_cross" "_law_do_cross" s__law_do_cross A.f__law_do_cross A.d__law_do_cross
  g__law_is_flat : mg "_law_is_flat" = some (.ref A.f__law_is_flat)
  F__law_is_flat : Fun K "_law_is_flat" "_law_is_flat" s__law_is_flat A.f__law_is_flat A.d__law_is_flat
  g__law_odd : mg "_law_odd" = some (.ref A.f__law_odd)
  F__law_odd : Fun K "_law_odd" "_law_odd" s__law_odd A.f__law_odd A.d__law_odd
  g_rows_of_heights : mg "rows_of_heights" = some (.ref A.f_rows_of_heights)
  F_rows_of_heights : Fun K "rows_of_heights" "rows_of_heights" s_rows_of_heights A.f_rows_of_heights A.d_rows_of_heights
  g_folds_of : mg "folds_of" = some (.ref A.f_folds_of)
  F_folds_of : Fun K "folds_of" "folds_of" s_folds_of A.f_folds_of A.d_folds_of
  g_is_tuple_of : mg "is_tuple_of" = some (.ref A.f_is_tuple_of)
  F_is_tuple_of : Fun K "is_tuple_of" "is_tuple_of" s_is_tuple_of A.f_is_tuple_of A.d_is_tuple_of
  g_is_above : mg "is_above" = some (.ref A.f_is_above)
  F_is_above : Fun K "is_above" "is_above" s_is_above A.f_is_above A.d_is_above
  g_need_strip : mg "need_strip" = some (.ref A.f_need_strip)
  F_need_strip : Fun K "need_strip" "need_strip" s_need_strip A.f_need_strip A.d_need_strip
  g_folds : mg "folds" = some (.ref A.f_folds)
  F_folds : Fun K "folds" "folds" s_folds A.f_folds A.d_folds
  g__law_are_refused : mg "_law_are_refused" = some (.ref A.f__law_are_refused)
  F__law_are_refused : Fun K "_law_are_refused" "_law_are_refused" s__law_are_refused A.f__law_are_refused A.d__law_are_refused
  g__law_mixed : mg "_law_mixed" = some (.ref A.f__law_mixed)
  F__law_mixed : Fun K "_law_mixed" "_law_mixed" s__law_mixed A.f__law_mixed A.d__law_mixed
  g__law_above : mg "_law_above" = some (.ref A.f__law_above)
  F__law_above : Fun K "_law_above" "_law_above" s__law_above A.f__law_above A.d__law_above
  g__law_orders : mg "_law_orders" = some (.ref A.f__law_orders)
  F__law_orders : Fun K "_law_orders" "_law_orders" s__law_orders A.f__law_orders A.d__law_orders
  g__law_deck : mg "_law_deck" = some (.ref A.f__law_deck)
  F__law_deck : Fun K "_law_deck" "_law_deck" s__law_deck A.f__law_deck A.d__law_deck
  g_law : mg "law" = some (.ref A.f_law)
  F_law : Fun K "law" "law" s_law A.f_law A.d_law
  g_BadAbove : mg "BadAbove" = some (.ref A.c_BadAbove)
  e_BadAbove : ErrC K A.c_BadAbove
  i_BadAbove : PySem.W.findIn K (.ref A.c_BadAbove) "__init__" = some (some (.ref A.i_BadAbove))
  t_BadAbove : PySem.W.typeIn K (.ref A.i_BadAbove) = some (.type "function")
  f_BadAbove : Fun K "__init__" "BadAbove.__init__" s_BadAbove A.i_BadAbove A.j_BadAbove
  x_BadAbove : XfC K A.c_BadAbove
  y_BadAbove : ExcC K A.c_BadAbove
  z_BadAbove : PySem.W.kitOne K (.ref A.c_BadAbove) (.ref A.c_SheetError) = some true
  g_BadLayers : mg "BadLayers" = some (.ref A.c_BadLayers)
  e_BadLayers : ErrC K A.c_BadLayers
  i_BadLayers : PySem.W.findIn K (.ref A.c_BadLayers) "__init__" = some (some (.ref A.i_BadLayers))
  t_BadLayers : PySem.W.typeIn K (.ref A.i_BadLayers) = some (.type "function")
  f_BadLayers : Fun K "__init__" "BadLayers.__init__" s_BadLayers A.i_BadLayers A.j_BadLayers
  x_BadLayers : XfC K A.c_BadLayers
  y_BadLayers : ExcC K A.c_BadLayers
  z_BadLayers : PySem.W.kitOne K (.ref A.c_BadLayers) (.ref A.c_SheetError) = some true
  g_BadPanels : mg "BadPanels" = some (.ref A.c_BadPanels)
  e_BadPanels : ErrC K A.c_BadPanels
  i_BadPanels : PySem.W.findIn K (.ref A.c_BadPanels) "__init__" = some (some (.ref A.i_BadPanels))
  t_BadPanels : PySem.W.typeIn K (.ref A.i_BadPanels) = some (.type "function")
  f_BadPanels : Fun K "__init__" "BadPanels.__init__" s_BadPanels A.i_BadPanels A.j_BadPanels
  x_BadPanels : XfC K A.c_BadPanels
  y_BadPanels : ExcC K A.c_BadPanels
  z_BadPanels : PySem.W.kitOne K (.ref A.c_BadPanels) (.ref A.c_SheetError) = some true
  m_BadAbove_BadAbove : PySem.W.exmOne K (.ref A.c_BadAbove) (.ref A.c_BadAbove) = some true
  m_BadAbove_BadLayers : PySem.W.exmOne K (.ref A.c_BadAbove) (.ref A.c_BadLayers) = some false
  m_BadAbove_BadPanels : PySem.W.exmOne K (.ref A.c_BadAbove) (.ref A.c_BadPanels) = some false
  m_BadLayers_BadAbove : PySem.W.exmOne K (.ref A.c_BadLayers) (.ref A.c_BadAbove) = some false
  m_BadLayers_BadLayers : PySem.W.exmOne K (.ref A.c_BadLayers) (.ref A.c_BadLayers) = some true
  m_BadLayers_BadPanels : PySem.W.exmOne K (.ref A.c_BadLayers) (.ref A.c_BadPanels) = some false
  m_BadPanels_BadAbove : PySem.W.exmOne K (.ref A.c_BadPanels) (.ref A.c_BadAbove) = some false
  m_BadPanels_BadLayers : PySem.W.exmOne K (.ref A.c_BadPanels) (.ref A.c_BadLayers) = some false
  m_BadPanels_BadPanels : PySem.W.exmOne K (.ref A.c_BadPanels) (.ref A.c_BadPanels) = some true
  g_SheetError : mg "SheetError" = some (.ref A.c_SheetError)
  o__law_are_refused : A.d__law_are_refused.code = .ref A.o__law_are_refused
  tu__law_are_refused : ∀ p ∈ A.T, p.1 = A.p__law_are_refused → p.2 = ((("_law_are_refused" : Str) ++ ".<locals>.") ++ "<lambda>")
  ti__law_are_refused : (A.p__law_are_refused, ((("_law_are_refused" : Str) ++ ".<locals>.") ++ "<lambda>")) ∈ A.T
  o_law : A.d_law.code = .ref A.o_law
  tu_law : ∀ p ∈ A.T, p.1 = A.p_law → p.2 = ((("law" : Str) ++ ".<locals>.") ++ "<lambda>")
  ti_law : (A.p_law, ((("law" : Str) ++ ".<locals>.") ++ "<lambda>")) ∈ A.T
structure Bas (mg : Str → Option Value) (base : Heap) (A : Adr) : Prop where
  nil : True
  t__law_are_refused : LamX.TabB base mg A.o__law_are_refused A.p__law_are_refused
  t_law : LamX.TabB base mg A.o_law A.p_law
section
variable {P : Program} {w : World} {K : PySem.W.Frag} {mg : Str → Option Value} {base : Heap} {A : Adr}
theorem sc__law_draw : FnScope ["deck", "many", "number", "turn", "cell"] ["deck", "many"] (defScope s__law_draw) := ⟨rfl, rfl, rfl, by decide +kernel, rfl, by decide +kernel, by decide +kernel⟩
theorem b__law_draw (T : Txt K mg A) : Binds K A.d__law_draw ["deck", "many"] [] := T.F__law_draw.binds fun _ _ _ _ _ _ us hl => match us, hl with | [_, _], _ => rfl
theorem sc__law_pick : FnScope ["deck", "some"] ["deck", "some"] (defScope s__law_pick) := ⟨rfl, rfl, rfl, by decide +kernel, rfl, by decide +kernel, by decide +kernel⟩
theorem b__law_pick (T : Txt K mg A) : Binds K A.d__law_pick ["deck", "some"] [] := T.F__law_pick.binds fun _ _ _ _ _ _ us hl => match us, hl with | [_, _], _ => rfl
theorem sc__law_same : FnScope ["told", "due", "todo", "one", "other"] ["told", "due"] (defScope s__law_same) := ⟨rfl, rfl, rfl, by decide +kernel, rfl, by decide +kernel, by decide +kernel⟩
theorem b__law_same (T : Txt K mg A) : Binds K A.d__law_same ["told", "due"] [] := T.F__law_same.binds fun _ _ _ _ _ _ us hl => match us, hl with | [_, _], _ => rfl
theorem sc__law_whole : FnScope ["thing"] ["thing"] (defScope s__law_whole) := ⟨rfl, rfl, rfl, by decide +kernel, rfl, by decide +kernel, by decide +kernel⟩
theorem b__law_whole (T : Txt K mg A) : Binds K A.d__law_whole ["thing"] [] := T.F__law_whole.binds fun _ _ _ _ _ _ us hl => match us, hl with | [_], _ => rfl
theorem sc__law_is_layers : FnScope ["thing", "it"] ["thing"] (defScope s__law_is_layers) := ⟨rfl, rfl, rfl, by decide +kernel, rfl, by decide +kernel, by decide +kernel⟩
theorem b__law_is_layers (T : Txt K mg A) : Binds K A.d__law_is_layers ["thing"] [] := T.F__law_is_layers.binds fun _ _ _ _ _ _ us hl => match us, hl with | [_], _ => rfl
theorem sc__law_facing : FnScope ["layers", "found", "j", "i"] ["layers"] (defScope s__law_facing) := ⟨rfl, rfl, rfl, by decide +kernel, rfl, by decide +kernel, by decide +kernel⟩
theorem b__law_facing (T : Txt K mg A) : Binds K A.d__law_facing ["layers"] [] := T.F__law_facing.binds fun _ _ _ _ _ _ us hl => match us, hl with | [_], _ => rfl
theorem sc__law_heard : FnScope ["call", "e"] ["call"] (defScope s__law_heard) := ⟨rfl, rfl, rfl, by decide +kernel, rfl, by decide +kernel, by decide +kernel⟩
theorem b__law_heard (T : Txt K mg A) : Binds K A.d__law_heard ["call"] [] := T.F__law_heard.binds fun _ _ _ _ _ _ us hl => match us, hl with | [_], _ => rfl
theorem sc_is_whole : FnScope ["thing"] ["thing"] (defScope s_is_whole) := ⟨rfl, rfl, rfl, by decide +kernel, rfl, by decide +kernel, by decide +kernel⟩
theorem b_is_whole (T : Txt K mg A) : Binds K A.d_is_whole ["thing"] [] := T.F_is_whole.binds fun _ _ _ _ _ _ us hl => match us, hl with | [_], _ => rfl
theorem sc_is_whole_between : FnScope ["thing", "least", "most"] ["thing", "least", "most"] (defScope s_is_whole_between) := ⟨rfl, rfl, rfl, by decide +kernel, rfl, by decide +kernel, by decide +kernel⟩
theorem b_is_whole_between (T : Txt K mg A) : Binds K A.d_is_whole_between ["thing", "least", "most"] [] := T.F_is_whole_between.binds fun _ _ _ _ _ _ us hl => match us, hl with | [_, _, _], _ => rfl
theorem sc_are_layers : FnScope ["thing", "many", "height"] ["thing"] (defScope s_are_layers) := ⟨rfl, rfl, rfl, by decide +kernel, rfl, by decide +kernel, by decide +kernel⟩
theorem b_are_layers (T : Txt K mg A) : Binds K A.d_are_layers ["thing"] [] := T.F_are_layers.binds fun _ _ _ _ _ _ us hl => match us, hl with | [_], _ => rfl
theorem sc_facing : FnScope ["layers", "many", "pairs", "one", "other"] ["layers"] (defScope s_facing) := ⟨rfl, rfl, rfl, by decide +kernel, rfl, by decide +kernel, by decide +kernel⟩
theorem b_facing (T : Txt K mg A) : Binds K A.d_facing ["layers"] [] := T.F_facing.binds fun _ _ _ _ _ _ us hl => match us, hl with | [_], _ => rfl
theorem sc_do_cross : FnScope ["heights", "one", "other", "within", "low", "high", "panel"] ["heights", "one", "other"] (defScope s_do_cross) := ⟨rfl, rfl, rfl, by decide +kernel, rfl, by decide +kernel, by decide +kernel⟩
theorem b_do_cross (T : Txt K mg A) : Binds K A.d_do_cross ["heights", "one", "other"] [] := T.F_do_cross.binds fun _ _ _ _ _ _ us hl => match us, hl with | [_, _, _], _ => rfl
theorem sc_has_crossing : FnScope ["layers", "creases", "one", "other"] ["layers"] (defScope s_has_crossing) := ⟨rfl, rfl, rfl, by decide +kernel, rfl, by decide +kernel, by decide +kernel⟩
theorem b_has_crossing (T : Txt K mg A) : Binds K A.d_has_crossing ["layers"] [] := T.F_has_crossing.binds fun _ _ _ _ _ _ us hl => match us, hl with | [_], _ => rfl
theorem sc_is_fold : FnScope ["thing"] ["thing"] (defScope s_is_fold) := ⟨rfl, rfl, rfl, by decide +kernel, rfl, by decide +kernel, by decide +kernel⟩
theorem b_is_fold (T : Txt K mg A) : Binds K A.d_is_fold ["thing"] [] := T.F_is_fold.binds fun _ _ _ _ _ _ us hl => match us, hl with | [_], _ => rfl
theorem sc__law_do_cross : FnScope ["layers", "i", "j", "low", "high", "panel"] ["layers", "i", "j"] (defScope s__law_do_cross) := ⟨rfl, rfl, rfl, by decide +kernel, rfl, by decide +kernel, by decide +kernel⟩
theorem b__law_do_cross (T : Txt K mg A) : Binds K A.d__law_do_cross ["layers", "i", "j"] [] := T.F__law_do_cross.binds fun _ _ _ _ _ _ us hl => match us, hl with | [_, _, _], _ => rfl
theorem sc__law_is_flat : FnScope ["layers", "j", "i"] ["layers"] (defScope s__law_is_flat) := ⟨rfl, rfl, rfl, by decide +kernel, rfl, by decide +kernel, by decide +kernel⟩
theorem b__law_is_flat (T : Txt K mg A) : Binds K A.d__law_is_flat ["layers"] [] := T.F__law_is_flat.binds fun _ _ _ _ _ _ us hl => match us, hl with | [_], _ => rfl
theorem sc__law_odd : FnScope ["deck", "layers", "some", "it"] ["deck", "layers"] (defScope s__law_odd) := ⟨rfl, rfl, rfl, by decide +kernel, rfl, by decide +kernel, by decide +kernel⟩
theorem b__law_odd (T : Txt K mg A) : Binds K A.d__law_odd ["deck", "layers"] [] := T.F__law_odd.binds fun _ _ _ _ _ _ us hl => match us, hl with | [_, _], _ => rfl
theorem sc_rows_of_heights : FnScope ["many", "found", "turn", "row", "height"] ["many"] (defScope s_rows_of_heights) := ⟨rfl, rfl, rfl, by decide +kernel, rfl, by decide +kernel, by decide +kernel⟩
theorem b_rows_of_heights (T : Txt K mg A) : Binds K A.d_rows_of_heights ["many"] [] := T.F_rows_of_heights.binds fun _ _ _ _ _ _ us hl => match us, hl with | [_], _ => rfl
theorem sc_folds_of : FnScope ["many", "above", "found", "layers", "one", "other"] ["many", "above"] (defScope s_folds_of) := ⟨rfl, rfl, rfl, by decide +kernel, rfl, by decide +kernel, by decide +kernel⟩
theorem b_folds_of (T : Txt K mg A) : Binds K A.d_folds_of ["many", "above"] [] := T.F_folds_of.binds fun _ _ _ _ _ _ us hl => match us, hl with | [_, _], _ => rfl
theorem sc_is_tuple_of : FnScope ["thing", "many"] ["thing", "many"] (defScope s_is_tuple_of) := ⟨rfl, rfl, rfl, by decide +kernel, rfl, by decide +kernel, by decide +kernel⟩
theorem b_is_tuple_of (T : Txt K mg A) : Binds K A.d_is_tuple_of ["thing", "many"] [] := T.F_is_tuple_of.binds fun _ _ _ _ _ _ us hl => match us, hl with | [_, _], _ => rfl
theorem sc_is_above : FnScope ["many", "thing", "pair", "one", "other", "panel"] ["many", "thing"] (defScope s_is_above) := ⟨rfl, rfl, rfl, by decide +kernel, rfl, by decide +kernel, by decide +kernel⟩
theorem b_is_above (T : Txt K mg A) : Binds K A.d_is_above ["many", "thing"] [] := T.F_is_above.binds fun _ _ _ _ _ _ us hl => match us, hl with | [_, _], _ => rfl
theorem sc_need_strip : FnScope ["many", "above"] ["many", "above"] (defScope s_need_strip) := ⟨rfl, rfl, rfl, by decide +kernel, rfl, by decide +kernel, by decide +kernel⟩
theorem b_need_strip (T : Txt K mg A) : Binds K A.d_need_strip ["many", "above"] [] := T.F_need_strip.binds fun _ _ _ _ _ _ us hl => match us, hl with | [_, _], _ => rfl
theorem sc_folds : FnScope ["many", "above"] ["many", "above"] (defScope s_folds) := ⟨rfl, rfl, rfl, by decide +kernel, rfl, by decide +kernel, by decide +kernel⟩
theorem b_folds (T : Txt K mg A) : Binds K A.d_folds ["many", "above"] [] := T.F_folds.binds fun _ _ _ _ _ _ us hl => match us, hl with | [_, _], _ => rfl
theorem sc__law_are_refused : FnScope ["deck", "many", "above", "none", "odd", "bad", "told"] ["deck", "many", "above"] (defScope s__law_are_refused) := ⟨rfl, rfl, rfl, by decide +kernel, rfl, by decide +kernel, by decide +kernel⟩
theorem b__law_are_refused (T : Txt K mg A) : Binds K A.d__law_are_refused ["deck", "many", "above"] [] := T.F__law_are_refused.binds fun _ _ _ _ _ _ us hl => match us, hl with | [_, _, _], _ => rfl
theorem sc__law_mixed : FnScope ["deck", "some", "left", "found"] ["deck", "some"] (defScope s__law_mixed) := ⟨rfl, rfl, rfl, by decide +kernel, rfl, by decide +kernel, by decide +kernel⟩
theorem b__law_mixed (T : Txt K mg A) : Binds K A.d__law_mixed ["deck", "some"] [] := T.F__law_mixed.binds fun _ _ _ _ _ _ us hl => match us, hl with | [_, _], _ => rfl
theorem sc__law_above : FnScope ["deck", "many", "fold", "pairs", "i", "way", "j"] ["deck", "many", "fold"] (defScope s__law_above) := ⟨rfl, rfl, rfl, by decide +kernel, rfl, by decide +kernel, by decide +kernel⟩
theorem b__law_above (T : Txt K mg A) : Binds K A.d__law_above ["deck", "many", "fold"] [] := T.F__law_above.binds fun _ _ _ _ _ _ us hl => match us, hl with | [_, _, _], _ => rfl
theorem sc__law_orders : FnScope ["many", "rows", "panel", "longer", "row", "height"] ["many"] (defScope s__law_orders) := ⟨rfl, rfl, rfl, by decide +kernel, rfl, by decide +kernel, by decide +kernel⟩
theorem b__law_orders (T : Txt K mg A) : Binds K A.d__law_orders ["many"] [] := T.F__law_orders.binds fun _ _ _ _ _ _ us hl => match us, hl with | [_], _ => rfl
theorem sc__law_deck : FnScope ["script", "salt", "cell", "cells", "mixed"] ["script", "salt"] (defScope s__law_deck) := ⟨rfl, rfl, rfl, by decide +kernel, rfl, by decide +kernel, by decide +kernel⟩
theorem b__law_deck (T : Txt K mg A) : Binds K A.d__law_deck ["script", "salt"] [] := T.F__law_deck.binds fun _ _ _ _ _ _ us hl => match us, hl with | [_, _], _ => rfl
theorem sc_law : FnScope ["script", "deck", "many", "orders", "flat", "number", "told", "turn", "above", "layers", "due", "kept", "odd", "near", "i", "j"] ["script"] (defScope s_law) := ⟨rfl, rfl, rfl, by decide +kernel, rfl, by decide +kernel, by decide +kernel⟩
theorem b_law (T : Txt K mg A) : Binds K A.d_law ["script"] [] := T.F_law.binds fun _ _ _ _ _ _ us hl => match us, hl with | [_], _ => rfl
theorem sc_BadAbove : FnScope ["self", "thing"] ["self", "thing"] (defScope s_BadAbove) := ⟨rfl, rfl, rfl, by decide +kernel, rfl, by decide +kernel, by decide +kernel⟩
theorem b_BadAbove (T : Txt K mg A) : Binds K A.j_BadAbove ["self", "thing"] [] := T.f_BadAbove.binds fun _ _ _ _ _ _ us hl => match us, hl with | [_, _], _ => rfl
theorem sc_BadLayers : FnScope ["self", "thing"] ["self", "thing"] (defScope s_BadLayers) := ⟨rfl, rfl, rfl, by decide +kernel, rfl, by decide +kernel, by decide +kernel⟩
theorem b_BadLayers (T : Txt K mg A) : Binds K A.j_BadLayers ["self", "thing"] [] := T.f_BadLayers.binds fun _ _ _ _ _ _ us hl => match us, hl with | [_, _], _ => rfl
theorem sc_BadPanels : FnScope ["self", "thing"] ["self", "thing"] (defScope s_BadPanels) := ⟨rfl, rfl, rfl, by decide +kernel, rfl, by decide +kernel, by decide +kernel⟩
theorem b_BadPanels (T : Txt K mg A) : Binds K A.j_BadPanels ["self", "thing"] [] := T.f_BadPanels.binds fun _ _ _ _ _ _ us hl => match us, hl with | [_, _], _ => rfl
theorem kb_facing_0_layers (T : Txt K mg A) : KB K A.d_facing ["layers"] ["layers"] 0 [0] := kb_ofF T.F_facing fun _ _ _ _ _ _ us ws h1 h2 => match us, ws, h1, h2 with | [], [_], _, _ => rfl
theorem kb_folds_0_above_many (T : Txt K mg A) : KB K A.d_folds ["many", "above"] ["above", "many"] 0 [1, 0] := kb_ofF T.F_folds fun _ _ _ _ _ _ us ws h1 h2 => match us, ws, h1, h2 with | [], [_, _], _, _ => rfl
theorem kb_is_fold_0_thing (T : Txt K mg A) : KB K A.d_is_fold ["thing"] ["thing"] 0 [0] := kb_ofF T.F_is_fold fun _ _ _ _ _ _ us ws h1 h2 => match us, ws, h1, h2 with | [], [_], _, _ => rfl
abbrev hs__law_heard : Hs := [("BadPanels", hT3 "panels"), ("BadAbove", hT3 "above"), ("BadLayers", hT3 "layers")]
theorem xm__law_heard (T : Txt K mg A) : XM K A.cls errs (hs__law_heard.map (·.1)) := by
  intro c hc d hd
  simp only [errs, hs__law_heard, List.map_cons, List.map_nil, List.mem_cons, List.not_mem_nil, or_false] at hc hd
  rcases hc with rfl | rfl | rfl <;> rcases hd with rfl | rfl | rfl
  · exact T.m_BadAbove_BadPanels
  · exact T.m_BadAbove_BadAbove
  · exact T.m_BadAbove_BadLayers
  · exact T.m_BadLayers_BadPanels
  · exact T.m_BadLayers_BadAbove
  · exact T.m_BadLayers_BadLayers
  · exact T.m_BadPanels_BadPanels
  · exact T.m_BadPanels_BadAbove
  · exact T.m_BadPanels_BadLayers
theorem hd__law_heard (T : Txt K mg A) {A0 : Around} {st : List Env} {g : Addr} {cdg : Value} {s : Shared} {H : Hp} {hds : List ExceptHandler} (h : (match defBody s__law_heard with | [.Try _ h _ _ _] => h | _ => []) = hds) : HdsD ((cxOf C8.CX0 P w K mg base ["call", "e"] "_law_heard" (defScope s__law_heard) g cdg A0 st s H C8.E0).nox) A.cls "e" 1 hds hs__law_heard := by
  subst h
  exact .cons (x := "BadPanels") (c := "BadPanels") ⟨by rfl, by decide, .inl T.g_BadPanels⟩ (fun a oe cv d pn hz hf => su_T3 (pa_err3 T.x_BadPanels T.y_BadPanels T.e_BadPanels.no T.z_BadPanels hz hf (pv 1) (by rfl) T.n_isinstance (by rfl) T.g_SheetError (by decide) rfl)) (.cons (x := "BadAbove") (c := "BadAbove") ⟨by rfl, by decide, .inl T.g_BadAbove⟩ (fun a oe cv d pn hz hf => su_T3 (pa_err3 T.x_BadAbove T.y_BadAbove T.e_BadAbove.no T.z_BadAbove hz hf (pv 1) (by rfl) T.n_isinstance (by rfl) T.g_SheetError (by decide) rfl)) (.cons (x := "BadLayers") (c := "BadLayers") ⟨by rfl, by decide, .inl T.g_BadLayers⟩ (fun a oe cv d pn hz hf => su_T3 (pa_err3 T.x_BadLayers T.y_BadLayers T.e_BadLayers.no T.z_BadLayers hz hf (pv 1) (by rfl) T.n_isinstance (by rfl) T.g_SheetError (by decide) rfl)) (.nil)))
--OKS
theorem ok__law_draw {gd : Bool} (T : Txt K mg A) (B : Bas mg base A) : FnG gd P w K mg base 2 A.f__law_draw A.d__law_draw ["deck", "many"] (spD K A.T A.cls 2 F__law_draw) :=
  fn_denX (k := 1) T.F__law_draw sc__law_draw rfl (by decide) fun cdv A0 outer s H E H0 S0 F0 L W hr hgd hcode tk hpo => by
  have nd : (["deck", "many", "number", "turn", "cell"] : List Str).Nodup := by decide
  exact dss_cons (ds_par (i := 3) (j := 4) rfl nd rfl rfl (by decide) rfl rfl (de_stb (de_bin op_addAll od_addAll (de_dkT (ks := dks) (i := 0) (hu_of hr) (pv 0)) (de_int))) (de_stb (de_dkM (ks := dks) (i := 0) (hu_of hr) (pv 0))) rfl) (dss_cons (ds_dkT (ks := dks) (i := 0) (hu_of hr) (pv 0) (de_var 3)) (dss_cons (ds_if (dt_dkNe (ks := dks) (i := 0) hr.units (pv 0)) (dss_cons (ds_set (i := 4) nd rfl (by first | exact Or.inl rfl | exact Or.inr rfl) (de_stb (de_dkPop (ks := dks) (i := 0) (hu_of hr) (pv 0)))) (dss_cons (ds_if (dt_cmp op_ge od_ge (de_var 4) (de_bin op_pow od_pow (de_int) (de_int)) (by first | rfl | exact nobehind _ (by decide) (by decide))) (dss_cons (ds_expr (de_dkApp (ks := dks) (i := 0) (hu_of hr) (pv 0) (fun _ _ => de_bin op_fdivN od_fdiv (de_var 4) (de_callB (call_max2 rfl) cd_max2 (by rfl) T.n_max (by rfl) (da_cons (de_int) (da_cons (de_var 1) (da_nil))))))) (dss_one (ds_ret (de_bin op_modN od_mod (de_callTy call_int1 cd_int (by rfl) T.n_int (by rfl) (da_cons (de_var 4) (da_nil))) (de_var 1))))) (dss_nil)) (dss_one (ds_set (i := 4) nd rfl (by first | exact Or.inl rfl | exact Or.inr rfl) (de_stb (de_bin op_addAll od_addAll (de_var 4) (de_dkM (ks := dks) (i := 0) (hu_of hr) (pv 0)))))))) (dss_nil)) (dss_cons (ds_set (i := 2) nd rfl (by first | exact Or.inl rfl | exact Or.inr rfl) (de_bin op_modN od_mod (de_callTy call_int1 cd_int (by rfl) T.n_int (by rfl) (da_cons (de_bin op_mul od_mul (de_bin op_addAll od_addAll (de_bin op_addAll od_addAll (de_bin op_modN od_mod (de_callTy call_int1 cd_int (by rfl) T.n_int (by rfl) (da_cons (de_var 4) (da_nil))) (de_int)) (de_bin op_mul od_mul (de_bin op_mul od_mul (de_int) (de_var 3)) (de_var 3))) (de_int)) (de_int)) (da_nil))) (de_int))) (dss_cons (ds_set (i := 2) nd rfl (by first | exact Or.inl rfl | exact Or.inr rfl) (de_bin op_modN od_mod (de_callTy call_int1 cd_int (by rfl) T.n_int (by rfl) (da_cons (de_bin op_addAll od_addAll (de_bin op_addAll od_addAll (de_bin op_mul od_mul (de_var 2) (de_var 2)) (de_bin op_mul od_mul (de_int) (de_var 3))) (de_int)) (da_nil))) (de_int))) (dss_one (ds_ret (de_bin op_modN od_mod (de_callTy call_int1 cd_int (by rfl) T.n_int (by rfl) (da_cons (de_bin op_fdivN od_fdiv (de_bin op_modN od_mod (de_callTy call_int1 cd_int (by rfl) T.n_int (by rfl) (da_cons (de_bin op_mul od_mul (de_var 2) (de_int)) (da_nil))) (de_int)) (de_int)) (da_nil))) (de_var 1))))))))
theorem ok__law_pick {gd : Bool} (T : Txt K mg A) (B : Bas mg base A) : FnG gd P w K mg base 3 A.f__law_pick A.d__law_pick ["deck", "some"] (spD K A.T A.cls 2 F__law_pick) :=
  fn_denX (k := 2) T.F__law_pick sc__law_pick rfl (by decide) fun cdv A0 outer s H E H0 S0 F0 L W hr hgd hcode tk hpo => by
  have nd : (["deck", "some"] : List Str).Nodup := by decide
  exact dss_one (ds_ret (de_ix ix_seq od_ix (de_var 1) (de_call ((ok__law_draw (gd := gd) T B).mono (by decide)) hr hgd tk (by rfl) T.g__law_draw T.F__law_draw.kp (b__law_draw T) (da_cons (de_var 0) (da_cons (de_sto (de_callB call_len cd_len (by rfl) T.n_len (by rfl) (da_cons (de_var 1) (da_nil)))) (da_nil))))))
theorem ok__law_same {gd : Bool} (T : Txt K mg A) (B : Bas mg base A) : FnG gd P w K mg base 2 A.f__law_same A.d__law_same ["told", "due"] (spD K A.T A.cls 2 F__law_same) :=
  fn_denX (k := 1) T.F__law_same sc__law_same rfl (by decide) fun cdv A0 outer s H E H0 S0 F0 L W hr hgd hcode tk hpo => by
  have nd : (["told", "due", "todo", "one", "other"] : List Str).Nodup := by decide
  exact dss_cons (ds_set (i := 2) nd rfl (by first | exact Or.inl rfl | exact Or.inr rfl) (de_stb (de_lst (da_cons (de_tup (da_cons (de_sto (de_var 0)) (da_cons (de_sto (de_var 1)) (da_nil)))) (da_nil))))) (dss_cons (ds_while (n := fuel) hpo (dt_cmp (op_neA hr.units) od_neA (de_var 2) (de_lst (da_nil)) (by first | rfl | exact nobehind _ (by decide) (by decide))) (dss_cons (ds_asgT (de_pop (i := 2) (pv 2)) (dg_tup rfl (dgs_cons (dg_name nd rfl (by first | exact Or.inl rfl | exact Or.inr rfl)) (dgs_cons (dg_name nd rfl (by first | exact Or.inl rfl | exact Or.inr rfl)) (dgs_nil))))) (dss_one (ds_if (dt_val (de_isi2 .tup .lst (by rfl) T.n_isinstance (by rfl) T.n_tuple (by rfl) T.n_list (de_var 4))) (dss_cons (ds_if (dt_bool (dw_or (dt_cmp (op_neA hr.units) od_neA (de_isi .tup (by rfl) T.n_isinstance (by rfl) T.n_tuple (de_var 3)) (de_isi .tup (by rfl) T.n_isinstance (by rfl) T.n_tuple (de_var 4)) (by first | rfl | exact nobehind _ (by decide) (by decide))) (dw_one (dt_not (dt_val (de_isi2 .tup .lst (by rfl) T.n_isinstance (by rfl) T.n_tuple (by rfl) T.n_list (de_var 3))))))) (dss_one (ds_ret (de_bl))) (dss_nil)) (dss_cons (ds_if (dt_cmp (op_neA hr.units) od_neA (de_callB call_len cd_len (by rfl) T.n_len (by rfl) (da_cons (de_var 3) (da_nil))) (de_callB call_len cd_len (by rfl) T.n_len (by rfl) (da_cons (de_var 4) (da_nil))) (by first | rfl | exact nobehind _ (by decide) (by decide))) (dss_one (ds_ret (de_bl))) (dss_nil)) (dss_one (ds_expr (de_ext (i := 2) (pv 2) (da_cons (de_lzip rfl (by rfl) T.n_list (by rfl) T.n_zip (de_var 3) (de_var 4)) (da_nil))))))) (dss_one (ds_if (dt_bool (dw_or (dt_cmp op_isN od_isN (de_var 4) (de_non) (by first | rfl | exact nobehind _ (by decide) (by decide))) (dw_one (dt_val (de_isi .dct (by rfl) T.n_isinstance (by rfl) T.n_dict (de_var 4)))))) (dss_one (ds_if (dt_ifE (dt_cmp op_isN od_isN (de_var 4) (de_non) (by first | rfl | exact nobehind _ (by decide) (by decide))) (dt_cmp op_notN od_notN (de_var 3) (de_non) (by first | rfl | exact nobehind _ (by decide) (by decide))) (dt_bool (dw_or (dt_not (dt_val (de_isi .dct (by rfl) T.n_isinstance (by rfl) T.n_dict (de_var 3)))) (dw_one (dt_cmp (op_neA hr.units) od_neA (de_var 3) (de_var 4) (by first | rfl | exact nobehind _ (by decide) (by decide))))))) (dss_one (ds_ret (de_bl))) (dss_nil))) (dss_one (ds_if (dt_val (de_isi .str (by rfl) T.n_isinstance (by rfl) T.n_str (de_var 4))) (dss_one (ds_if (dt_bool (dw_or (dt_not (dt_val (de_isi .str (by rfl) T.n_isinstance (by rfl) T.n_str (de_var 3)))) (dw_one (dt_cmp (op_neA hr.units) od_neA (de_var 3) (de_var 4) (by first | rfl | exact nobehind _ (by decide) (by decide)))))) (dss_one (ds_ret (de_bl))) (dss_nil))) (dss_one (ds_if (dt_bool (dw_or (dt_not (dt_val (de_isi .int (by rfl) T.n_isinstance (by rfl) T.n_int (de_var 3)))) (dw_or (dt_cmp (op_neA hr.units) od_neA (de_isi .bool (by rfl) T.n_isinstance (by rfl) T.n_bool (de_var 3)) (de_isi .bool (by rfl) T.n_isinstance (by rfl) T.n_bool (de_var 4)) (by first | rfl | exact nobehind _ (by decide) (by decide))) (dw_one (dt_cmp (op_neA hr.units) od_neA (de_var 3) (de_var 4) (by first | rfl | exact nobehind _ (by decide) (by decide))))))) (dss_one (ds_ret (de_bl))) (dss_nil))))))))))) (dss_one (ds_ret (de_bl))))
theorem ok__law_whole {gd : Bool} (T : Txt K mg A) (B : Bas mg base A) : FnG gd P w K mg base 2 A.f__law_whole A.d__law_whole ["thing"] (spD K A.T A.cls 1 F__law_whole) :=
  fn_denX (k := 1) T.F__law_whole sc__law_whole rfl (by decide) fun cdv A0 outer s H E H0 S0 F0 L W hr hgd hcode tk hpo => by
  have nd : (["thing"] : List Str).Nodup := by decide
  exact dss_one (ds_ret (de_and (de_isi .int (by rfl) T.n_isinstance (by rfl) T.n_int (de_var 0)) (de_one (de_not (de_isi .bool (by rfl) T.n_isinstance (by rfl) T.n_bool (de_var 0))))))
theorem ok__law_is_layers {gd : Bool} (T : Txt K mg A) (B : Bas mg base A) : FnG gd P w K mg base 3 A.f__law_is_layers A.d__law_is_layers ["thing"] (spD K A.T A.cls 1 F__law_is_layers) :=
  fn_denX (k := 2) T.F__law_is_layers sc__law_is_layers rfl (by decide) fun cdv A0 outer s H E H0 S0 F0 L W hr hgd hcode tk hpo => by
  have nd : (["thing", "it"] : List Str).Nodup := by decide
  exact dss_cons (ds_if (dt_bool (dw_or (dt_not (dt_val (de_isi .tup (by rfl) T.n_isinstance (by rfl) T.n_tuple (de_var 0)))) (dw_or (dt_not (dt_chain (op_ltA hr.units0) (op_ltA hr.units0) od_ltA od_ltA (de_int) (de_callB call_len cd_len (by rfl) T.n_len (by rfl) (da_cons (de_var 0) (da_nil))) (de_int))) (dw_one (dt_cmp (op_neA hr.units) od_neA (de_lc (own := [("it", 1)]) rfl nd (di_seq (de_var 0)) (blkOk_by (by rfl)) (fun _ _ _ _ _ => dg_name nd rfl (by first | exact Or.inl rfl | exact Or.inr rfl)) (fun _ _ _ _ _ => dts_one (dt_not (dt_val (de_call ((ok__law_whole (gd := gd) T B).mono (by decide)) hr hgd LamX.takes0 (by rfl) T.g__law_whole T.F__law_whole.kp (b__law_whole T) (da_cons (de_sto (de_var 1)) (da_nil)))))) (fun _ _ _ _ _ => de_int)) (de_lst (da_nil)) (by first | rfl | exact nobehind _ (by decide) (by decide))))))) (dss_one (ds_ret (de_bl))) (dss_nil)) (dss_one (ds_ret (de_cmp (op_eqA hr.units) od_eqA (de_callB cr_srt cd_sorted (by rfl) T.n_sorted (by rfl) (da_cons (de_var 0) (da_nil))) (de_listRg1 rfl (by rfl) T.n_list (by rfl) T.n_range (de_callB call_len cd_len (by rfl) T.n_len (by rfl) (da_cons (de_var 0) (da_nil)))) (by first | rfl | exact nobehind _ (by decide) (by decide)))))
theorem ok__law_facing {gd : Bool} (T : Txt K mg A) (B : Bas mg base A) : FnG gd P w K mg base 2 A.f__law_facing A.d__law_facing ["layers"] (spD K A.T A.cls 1 F__law_facing) :=
  fn_denX (k := 1) T.F__law_facing sc__law_facing rfl (by decide) fun cdv A0 outer s H E H0 S0 F0 L W hr hgd hcode tk hpo => by
  have nd : (["layers", "found", "j", "i"] : List Str).Nodup := by decide
  exact dss_cons (ds_set (i := 1) nd rfl (by first | exact Or.inl rfl | exact Or.inr rfl) (de_stb (de_lst (da_nil)))) (dss_cons (ds_for hpo rfl (di_range1 (by rfl) T.n_range (da_cons (de_callB call_len cd_len (by rfl) T.n_len (by rfl) (da_cons (de_var 0) (da_nil))) (da_nil))) (dg_name nd rfl (by first | exact Or.inl rfl | exact Or.inr rfl)) (dss_one (ds_expr (de_ext (i := 1) (pv 1) (da_cons (de_lc (own := [("i", 3)]) rfl nd (di_range1 (by rfl) T.n_range (da_cons (de_var 2) (da_nil))) (blkOk_by (by rfl)) (fun _ _ _ _ _ => dg_name nd rfl (by first | exact Or.inl rfl | exact Or.inr rfl)) (fun _ _ _ _ _ => dts_one (dt_cmp (op_eqA hr.units) od_eqA (de_callB call_abs cd_abs (by rfl) T.n_abs (by rfl) (da_cons (de_bin op_sub od_sub (de_ix ix_seq od_ix (de_var 0) (de_var 3)) (de_ix ix_seq od_ix (de_var 0) (de_var 2))) (da_nil))) (de_int) (by first | rfl | exact nobehind _ (by decide) (by decide)))) (fun _ _ _ _ _ => de_tup (da_cons (de_sto (de_var 3)) (da_cons (de_sto (de_var 2)) (da_nil))))) (da_nil)))))) (dss_one (ds_ret (de_callTy call_tuple_of cd_tup (by rfl) T.n_tuple (by rfl) (da_cons (de_callB cr_srt cd_sorted (by rfl) T.n_sorted (by rfl) (da_cons (de_var 1) (da_nil))) (da_nil))))))
theorem ok_is_whole {gd : Bool} (T : Txt K mg A) (B : Bas mg base A) : FnG gd P w K mg base 2 A.f_is_whole A.d_is_whole ["thing"] (spD K A.T A.cls 1 F_is_whole) :=
  fn_denX (k := 1) T.F_is_whole sc_is_whole rfl (by decide) fun cdv A0 outer s H E H0 S0 F0 L W hr hgd hcode tk hpo => by
  have nd : (["thing"] : List Str).Nodup := by decide
  exact dss_one (ds_ret (de_and (de_isi .int (by rfl) T.n_isinstance (by rfl) T.n_int (de_var 0)) (de_and (de_not (de_isi .bool (by rfl) T.n_isinstance (by rfl) T.n_bool (de_var 0))) (de_one (de_chain op_le op_le od_le od_le (de_un un_neg ud_neg (de_glob (d := .int c_MOST_WHOLE) (v := .int c_MOST_WHOLE) (by rfl) T.v_MOST_WHOLE ⟨_, rfl⟩ (fun _ => rfl))) (de_var 0) (de_glob (d := .int c_MOST_WHOLE) (v := .int c_MOST_WHOLE) (by rfl) T.v_MOST_WHOLE ⟨_, rfl⟩ (fun _ => rfl)))))))
theorem ok_is_whole_between {gd : Bool} (T : Txt K mg A) (B : Bas mg base A) : FnG gd P w K mg base 3 A.f_is_whole_between A.d_is_whole_between ["thing", "least", "most"] (spD K A.T A.cls 3 F_is_whole_between) :=
  fn_denX (k := 2) T.F_is_whole_between sc_is_whole_between rfl (by decide) fun cdv A0 outer s H E H0 S0 F0 L W hr hgd hcode tk hpo => by
  have nd : (["thing", "least", "most"] : List Str).Nodup := by decide
  exact dss_one (ds_ret (de_and (de_call ((ok_is_whole (gd := gd) T B).mono (by decide)) hr hgd tk (by rfl) T.g_is_whole T.F_is_whole.kp (b_is_whole T) (da_cons (de_sto (de_var 0)) (da_nil))) (de_one (de_chain op_le op_le od_le od_le (de_var 1) (de_var 0) (de_var 2)))))
theorem ok_are_layers {gd : Bool} (T : Txt K mg A) (B : Bas mg base A) : FnG gd P w K mg base 4 A.f_are_layers A.d_are_layers ["thing"] (spD K A.T A.cls 1 F_are_layers) :=
  fn_denX (k := 3) T.F_are_layers sc_are_layers rfl (by decide) fun cdv A0 outer s H E H0 S0 F0 L W hr hgd hcode tk hpo => by
  have nd : (["thing", "many", "height"] : List Str).Nodup := by decide
  exact dss_cons (ds_if (dt_bool (dw_or (dt_not (dt_val (de_isi .tup (by rfl) T.n_isinstance (by rfl) T.n_tuple (de_var 0)))) (dw_one (dt_not (dt_chain op_le op_le od_le od_le (de_int) (de_callB call_len cd_len (by rfl) T.n_len (by rfl) (da_cons (de_var 0) (da_nil))) (de_glob (d := .int c_MOST_PANELS) (v := .int c_MOST_PANELS) (by rfl) T.v_MOST_PANELS ⟨_, rfl⟩ (fun _ => rfl))))))) (dss_one (ds_ret (de_bl))) (dss_nil)) (dss_cons (ds_set (i := 1) nd rfl (by first | exact Or.inl rfl | exact Or.inr rfl) (de_stb (de_callB call_len cd_len (by rfl) T.n_len (by rfl) (da_cons (de_var 0) (da_nil))))) (dss_cons (ds_if (dt_not (dt_val (de_callB (cr_all rfl) cd_all (by rfl) T.n_all (by rfl) (da_cons (de_lc (own := [("height", 2)]) rfl nd (di_seq (de_var 0)) (blkOk_by (by rfl)) (fun _ _ _ _ _ => dg_name nd rfl (by first | exact Or.inl rfl | exact Or.inr rfl)) (fun _ _ _ _ _ => dts_nil) (fun _ _ _ _ _ => de_sto (de_call ((ok_is_whole_between (gd := gd) T B).mono (by decide)) hr hgd LamX.takes0 (by rfl) T.g_is_whole_between T.F_is_whole_between.kp (b_is_whole_between T) (da_cons (de_sto (de_var 2)) (da_cons (de_int) (da_cons (de_bin op_sub od_sub (de_var 1) (de_int)) (da_nil))))))) (da_nil))))) (dss_one (ds_ret (de_bl))) (dss_nil)) (dss_one (ds_ret (de_cmp (op_eqA hr.units) od_eqA (de_callB cr_srt cd_sorted (by rfl) T.n_sorted (by rfl) (da_cons (de_var 0) (da_nil))) (de_listRg1 rfl (by rfl) T.n_list (by rfl) T.n_range (de_var 1)) (by first | rfl | exact nobehind _ (by decide) (by decide)))))))
theorem ok_facing {gd : Bool} (T : Txt K mg A) (B : Bas mg base A) : FnG gd P w K mg base 5 A.f_facing A.d_facing ["layers"] (spD K A.T A.cls 1 F_facing) :=
  fn_denX (k := 4) T.F_facing sc_facing rfl (by decide) fun cdv A0 outer s H E H0 S0 F0 L W hr hgd hcode tk hpo => by
  have nd : (["layers", "many", "pairs", "one", "other"] : List Str).Nodup := by decide
  exact dss_cons (ds_if (dt_not (dt_val (de_call ((ok_are_layers (gd := gd) T B).mono (by decide)) hr hgd tk (by rfl) T.g_are_layers T.F_are_layers.kp (b_are_layers T) (da_cons (de_sto (de_var 0)) (da_nil))))) (dss_one (ds_raise (k := 1) T.e_BadLayers rfl T.i_BadLayers T.t_BadLayers (thing_fn T.f_BadLayers sc_BadLayers rfl) (hr.mono (by decide)) (b_BadLayers T) rfl tk (by rfl) T.g_BadLayers (de_var 0))) (dss_nil)) (dss_cons (ds_set (i := 1) nd rfl (by first | exact Or.inl rfl | exact Or.inr rfl) (de_stb (de_callB call_len cd_len (by rfl) T.n_len (by rfl) (da_cons (de_var 0) (da_nil))))) (dss_cons (by first | exact ds_set (i := 2) nd rfl (by first | exact Or.inl rfl | exact Or.inr rfl) (de_lc2 (own := [("one", 3), ("other", 4)]) (vs1 := [4]) rfl nd (di_range1 (by rfl) T.n_range (da_cons (de_var 1) (da_nil))) (blkOk_by (by rfl)) (by decide) (fun _ _ _ _ _ => dg_name nd rfl (by first | exact Or.inl rfl | exact Or.inr rfl)) (fun _ _ _ _ _ => dts_nil) (fun _ _ _ _ _ => di_range2 (by rfl) T.n_range (da_cons (de_bin op_addAll od_addAll (de_var 3) (de_int)) (da_cons (de_var 1) (da_nil)))) (fun _ _ _ _ _ => dg_name nd rfl (by first | exact Or.inl rfl | exact Or.inr rfl)) (fun _ _ _ _ _ => dts_nil) (fun _ _ _ _ _ => de_tup (da_cons (de_sto (de_var 3)) (da_cons (de_sto (de_var 4)) (da_nil))))) | exact ds_setLc2 (i := 2) (y := "pairs") (own := [("one", 3), ("other", 4)]) (vs1 := [4]) rfl nd rfl rfl rfl (di_range1 (by rfl) T.n_range (da_cons (de_var 1) (da_nil))) (blkOk_by (by rfl)) (by decide) (fun _ _ _ _ _ => dg_name nd rfl (by first | exact Or.inl rfl | exact Or.inr rfl)) (fun _ _ _ _ _ => dts_nil) (fun _ _ _ _ _ => di_range2 (by rfl) T.n_range (da_cons (de_bin op_addAll od_addAll (de_var 3) (de_int)) (da_cons (de_var 1) (da_nil)))) (fun _ _ _ _ _ => dg_name nd rfl (by first | exact Or.inl rfl | exact Or.inr rfl)) (fun _ _ _ _ _ => dts_nil) (fun _ _ _ _ _ => de_tup (da_cons (de_sto (de_var 3)) (da_cons (de_sto (de_var 4)) (da_nil))))) (dss_one (ds_ret (de_callTy call_tuple_of cd_tup (by rfl) T.n_tuple (by rfl) (da_cons (de_lc (own := [("one", 3), ("other", 4)]) rfl nd (di_seq (de_var 2)) (blkOk_by (by rfl)) (fun _ _ _ _ _ => dg_tup rfl (dgs_cons (dg_name nd rfl (by first | exact Or.inl rfl | exact Or.inr rfl)) (dgs_cons (dg_name nd rfl (by first | exact Or.inl rfl | exact Or.inr rfl)) (dgs_nil)))) (fun _ _ _ _ _ => dts_one (dt_cmp (op_eqA hr.units) od_eqA (de_callB call_abs cd_abs (by rfl) T.n_abs (by rfl) (da_cons (de_bin op_sub od_sub (de_ix ix_seq od_ix (de_var 0) (de_var 3)) (de_ix ix_seq od_ix (de_var 0) (de_var 4))) (da_nil))) (de_int) (by first | rfl | exact nobehind _ (by decide) (by decide)))) (fun _ _ _ _ _ => de_tup (da_cons (de_sto (de_var 3)) (da_cons (de_sto (de_var 4)) (da_nil))))) (da_nil)))))))
theorem ok_do_cross {gd : Bool} (T : Txt K mg A) (B : Bas mg base A) : FnG gd P w K mg base 2 A.f_do_cross A.d_do_cross ["heights", "one", "other"] (spD K A.T A.cls 3 F_do_cross) :=
  fn_denX (k := 1) T.F_do_cross sc_do_cross rfl (by decide) fun cdv A0 outer s H E H0 S0 F0 L W hr hgd hcode tk hpo => by
  have nd : (["heights", "one", "other", "within", "low", "high", "panel"] : List Str).Nodup := by decide
  exact dss_cons (ds_asgT (de_callB cr_srt cd_sorted (by rfl) T.n_sorted (by rfl) (da_cons (de_lst (da_cons (de_sto (de_ix ix_seq od_ix (de_var 0) (de_var 1))) (da_cons (de_sto (de_ix ix_seq od_ix (de_var 0) (de_bin op_addAll od_addAll (de_var 1) (de_int)))) (da_nil)))) (da_nil))) (dg_tup rfl (dgs_cons (dg_name nd rfl (by first | exact Or.inl rfl | exact Or.inr rfl)) (dgs_cons (dg_name nd rfl (by first | exact Or.inl rfl | exact Or.inr rfl)) (dgs_nil))))) (dss_cons (by first | exact ds_set (i := 3) nd rfl (by first | exact Or.inl rfl | exact Or.inr rfl) (de_lc (own := [("panel", 6)]) rfl nd (di_seq (de_tup (da_cons (de_sto (de_var 2)) (da_cons (de_sto (de_bin op_addAll od_addAll (de_var 2) (de_int))) (da_nil))))) (blkOk_by (by rfl)) (fun _ _ _ _ _ => dg_name nd rfl (by first | exact Or.inl rfl | exact Or.inr rfl)) (fun _ _ _ _ _ => dts_nil) (fun _ _ _ _ _ => de_chain (op_ltA hr.units0) (op_ltA hr.units0) od_ltA od_ltA (de_var 4) (de_ix ix_seq od_ix (de_var 0) (de_var 6)) (de_var 5))) | exact ds_setLc (i := 3) (y := "within") (own := [("panel", 6)]) rfl nd rfl rfl rfl (di_seq (de_tup (da_cons (de_sto (de_var 2)) (da_cons (de_sto (de_bin op_addAll od_addAll (de_var 2) (de_int))) (da_nil))))) (blkOk_by (by rfl)) (fun _ _ _ _ _ => dg_name nd rfl (by first | exact Or.inl rfl | exact Or.inr rfl)) (fun _ _ _ _ _ => dts_nil) (fun _ _ _ _ _ => de_chain (op_ltA hr.units0) (op_ltA hr.units0) od_ltA od_ltA (de_var 4) (de_ix ix_seq od_ix (de_var 0) (de_var 6)) (de_var 5))) (dss_one (ds_ret (de_cmp (op_neA hr.units) od_neA (de_ix ix_seq od_ix (de_var 3) (de_int)) (de_ix ix_seq od_ix (de_var 3) (de_int)) (by first | rfl | exact nobehind _ (by decide) (by decide))))))
theorem ok_has_crossing {gd : Bool} (T : Txt K mg A) (B : Bas mg base A) : FnG gd P w K mg base 3 A.f_has_crossing A.d_has_crossing ["layers"] (spD K A.T A.cls 1 F_has_crossing) :=
  fn_denX (k := 2) T.F_has_crossing sc_has_crossing rfl (by decide) fun cdv A0 outer s H E H0 S0 F0 L W hr hgd hcode tk hpo => by
  have nd : (["layers", "creases", "one", "other"] : List Str).Nodup := by decide
  exact dss_cons (ds_set (i := 1) nd rfl (by first | exact Or.inl rfl | exact Or.inr rfl) (de_stb (de_callTy cr_range1 cd_range (by rfl) T.n_range (by rfl) (da_cons (de_bin op_sub od_sub (de_callB call_len cd_len (by rfl) T.n_len (by rfl) (da_cons (de_var 0) (da_nil))) (de_int)) (da_nil))))) (dss_one (ds_ret (de_callB (cr_any rfl) cd_any (by rfl) T.n_any (by rfl) (da_cons (de_lc2 (own := [("one", 2), ("other", 3)]) (vs1 := [3]) rfl nd (di_rng (i := 1) (pv 1)) (blkOk_by (by rfl)) (by decide) (fun _ _ _ _ _ => dg_name nd rfl (by first | exact Or.inl rfl | exact Or.inr rfl)) (fun _ _ _ _ _ => dts_nil) (fun _ _ _ _ _ => di_rng (i := 1) (pv 1)) (fun _ _ _ _ _ => dg_name nd rfl (by first | exact Or.inl rfl | exact Or.inr rfl)) (fun _ _ _ _ _ => dts_one (dt_bool (dw_and (dt_cmp op_gt od_gt (de_var 3) (de_var 2) (by first | rfl | exact nobehind _ (by decide) (by decide))) (dw_one (dt_cmp (op_eqA hr.units) od_eqA (de_bin op_modN od_mod (de_bin op_sub od_sub (de_var 3) (de_var 2)) (de_int)) (de_int) (by first | rfl | exact nobehind _ (by decide) (by decide))))))) (fun _ _ _ _ _ => de_sto (de_call ((ok_do_cross (gd := gd) T B).mono (by decide)) hr hgd LamX.takes0 (by rfl) T.g_do_cross T.F_do_cross.kp (b_do_cross T) (da_cons (de_sto (de_var 0)) (da_cons (de_sto (de_var 2)) (da_cons (de_sto (de_var 3)) (da_nil))))))) (da_nil)))))
theorem ok_is_fold {gd : Bool} (T : Txt K mg A) (B : Bas mg base A) : FnG gd P w K mg base 5 A.f_is_fold A.d_is_fold ["thing"] (spD K A.T A.cls 1 F_is_fold) :=
  fn_denX (k := 4) T.F_is_fold sc_is_fold rfl (by decide) fun cdv A0 outer s H E H0 S0 F0 L W hr hgd hcode tk hpo => by
  have nd : (["thing"] : List Str).Nodup := by decide
  exact dss_one (ds_ret (de_and (de_call ((ok_are_layers (gd := gd) T B).mono (by decide)) hr hgd tk (by rfl) T.g_are_layers T.F_are_layers.kp (b_are_layers T) (da_cons (de_sto (de_var 0)) (da_nil))) (de_one (de_not (de_call ((ok_has_crossing (gd := gd) T B).mono (by decide)) hr hgd tk (by rfl) T.g_has_crossing T.F_has_crossing.kp (b_has_crossing T) (da_cons (de_sto (de_var 0)) (da_nil)))))))
theorem ok__law_do_cross {gd : Bool} (T : Txt K mg A) (B : Bas mg base A) : FnG gd P w K mg base 2 A.f__law_do_cross A.d__law_do_cross ["layers", "i", "j"] (spD K A.T A.cls 3 F__law_do_cross) :=
  fn_denX (k := 1) T.F__law_do_cross sc__law_do_cross rfl (by decide) fun cdv A0 outer s H E H0 S0 F0 L W hr hgd hcode tk hpo => by
  have nd : (["layers", "i", "j", "low", "high", "panel"] : List Str).Nodup := by decide
  exact dss_cons (ds_asgT (de_tup (da_cons (de_sto (de_callB (call_min2 rfl) cd_min2 (by rfl) T.n_min (by rfl) (da_cons (de_ix ix_seq od_ix (de_var 0) (de_var 1)) (da_cons (de_ix ix_seq od_ix (de_var 0) (de_bin op_addAll od_addAll (de_var 1) (de_int))) (da_nil))))) (da_cons (de_sto (de_callB (call_max2 rfl) cd_max2 (by rfl) T.n_max (by rfl) (da_cons (de_ix ix_seq od_ix (de_var 0) (de_var 1)) (da_cons (de_ix ix_seq od_ix (de_var 0) (de_bin op_addAll od_addAll (de_var 1) (de_int))) (da_nil))))) (da_nil)))) (dg_tup rfl (dgs_cons (dg_name nd rfl (by first | exact Or.inl rfl | exact Or.inr rfl)) (dgs_cons (dg_name nd rfl (by first | exact Or.inl rfl | exact Or.inr rfl)) (dgs_nil))))) (dss_one (ds_ret (de_cmp (op_eqA hr.units) od_eqA (de_callB call_len cd_len (by rfl) T.n_len (by rfl) (da_cons (de_lc (own := [("panel", 5)]) rfl nd (di_seq (de_tup (da_cons (de_sto (de_var 2)) (da_cons (de_sto (de_bin op_addAll od_addAll (de_var 2) (de_int))) (da_nil))))) (blkOk_by (by rfl)) (fun _ _ _ _ _ => dg_name nd rfl (by first | exact Or.inl rfl | exact Or.inr rfl)) (fun _ _ _ _ _ => dts_one (dt_chain (op_ltA hr.units0) (op_ltA hr.units0) od_ltA od_ltA (de_var 3) (de_ix ix_seq od_ix (de_var 0) (de_var 5)) (de_var 4))) (fun _ _ _ _ _ => de_int)) (da_nil))) (de_int) (by first | rfl | exact nobehind _ (by decide) (by decide)))))
theorem ok__law_is_flat {gd : Bool} (T : Txt K mg A) (B : Bas mg base A) : FnG gd P w K mg base 3 A.f__law_is_flat A.d__law_is_flat ["layers"] (spD K A.T A.cls 1 F__law_is_flat) :=
  fn_denX (k := 2) T.F__law_is_flat sc__law_is_flat rfl (by decide) fun cdv A0 outer s H E H0 S0 F0 L W hr hgd hcode tk hpo => by
  have nd : (["layers", "j", "i"] : List Str).Nodup := by decide
  exact dss_cons (ds_for hpo rfl (di_range1 (by rfl) T.n_range (da_cons (de_bin op_sub od_sub (de_callB call_len cd_len (by rfl) T.n_len (by rfl) (da_cons (de_var 0) (da_nil))) (de_int)) (da_nil))) (dg_name nd rfl (by first | exact Or.inl rfl | exact Or.inr rfl)) (dss_one (ds_if (dt_cmp (op_neA hr.units) od_neA (de_lc (own := [("i", 2)]) rfl nd (di_range3 (by rfl) T.n_range (da_cons (de_bin op_sub od_sub (de_var 1) (de_int)) (da_cons (de_un un_neg ud_neg (de_int)) (da_cons (de_un un_neg ud_neg (de_int)) (da_nil))))) (blkOk_by (by rfl)) (fun _ _ _ _ _ => dg_name nd rfl (by first | exact Or.inl rfl | exact Or.inr rfl)) (fun _ _ _ _ _ => dts_one (dt_val (de_call ((ok__law_do_cross (gd := gd) T B).mono (by decide)) hr hgd LamX.takes0 (by rfl) T.g__law_do_cross T.F__law_do_cross.kp (b__law_do_cross T) (da_cons (de_sto (de_var 0)) (da_cons (de_sto (de_var 2)) (da_cons (de_sto (de_var 1)) (da_nil))))))) (fun _ _ _ _ _ => de_sto (de_var 2))) (de_lst (da_nil)) (by first | rfl | exact nobehind _ (by decide) (by decide))) (dss_one (ds_ret (de_bl))) (dss_nil)))) (dss_one (ds_ret (de_bl)))
theorem ok__law_odd {gd : Bool} (T : Txt K mg A) (B : Bas mg base A) : FnG gd P w K mg base 4 A.f__law_odd A.d__law_odd ["deck", "layers"] (spD K A.T A.cls 2 F__law_odd) :=
  fn_denX (k := 3) T.F__law_odd sc__law_odd rfl (by decide) fun cdv A0 outer s H E H0 S0 F0 L W hr hgd hcode tk hpo => by
  have nd : (["deck", "layers", "some", "it"] : List Str).Nodup := by decide
  exact dss_cons (ds_set (i := 2) nd rfl (by first | exact Or.inl rfl | exact Or.inr rfl) (de_stb (de_lst (da_cons (de_non) (da_cons (de_tup (da_nil)) (da_cons (de_sto (de_lst (da_nil))) (da_cons (de_str) (da_cons (de_int) (da_cons (de_sto (de_dct0)) (da_cons (de_sto (de_callTy call_list_of cd_lst (by rfl) T.n_list (by rfl) (da_cons (de_var 1) (da_nil)))) (da_cons (de_sto (de_bin op_addAll od_addAll (de_var 1) (de_slice (de_var 1) (do_no) (do_some (de_int))))) (da_cons (de_sto (de_slice (de_var 1) (do_some (de_int)) (do_no))) (da_cons (de_sto (de_bin op_addAll od_addAll (de_var 1) (de_tup (da_cons (de_sto (de_callB call_len cd_len (by rfl) T.n_len (by rfl) (da_cons (de_var 1) (da_nil)))) (da_nil))))) (da_cons (de_tup (da_cons (de_sto (de_var 1)) (da_nil))) (da_nil))))))))))))))) (dss_cons (ds_set (i := 2) nd rfl (by first | exact Or.inl rfl | exact Or.inr rfl) (de_stb (de_bin op_addAll od_addAll (de_var 2) (de_lst (da_cons (de_sto (de_callTy call_tuple_of cd_tup (by rfl) T.n_tuple (by rfl) (da_cons (de_lc (own := [("it", 3)]) rfl nd (di_seq (de_var 1)) (blkOk_by (by rfl)) (fun _ _ _ _ _ => dg_name nd rfl (by first | exact Or.inl rfl | exact Or.inr rfl)) (fun _ _ _ _ _ => dts_nil) (fun _ _ _ _ _ => de_sto (de_bin op_addAll od_addAll (de_var 3) (de_int)))) (da_nil)))) (da_cons (de_sto (de_callTy call_tuple_of cd_tup (by rfl) T.n_tuple (by rfl) (da_cons (de_lc (own := [("it", 3)]) rfl nd (di_seq (de_var 1)) (blkOk_by (by rfl)) (fun _ _ _ _ _ => dg_name nd rfl (by first | exact Or.inl rfl | exact Or.inr rfl)) (fun _ _ _ _ _ => dts_nil) (fun _ _ _ _ _ => de_bin op_sub od_sub (de_int) (de_var 3))) (da_nil)))) (da_cons (de_sto (de_callTy call_tuple_of cd_tup (by rfl) T.n_tuple (by rfl) (da_cons (de_lc (own := [("it", 3)]) rfl nd (di_seq (de_var 1)) (blkOk_by (by rfl)) (fun _ _ _ _ _ => dg_name nd rfl (by first | exact Or.inl rfl | exact Or.inr rfl)) (fun _ _ _ _ _ => dts_nil) (fun _ _ _ _ _ => de_cmp (op_eqA hr.units) od_eqA (de_var 3) (de_int) (by first | rfl | exact nobehind _ (by decide) (by decide)))) (da_nil)))) (da_nil)))))))) (dss_cons (ds_set (i := 2) nd rfl (by first | exact Or.inl rfl | exact Or.inr rfl) (de_stb (de_bin op_addAll od_addAll (de_var 2) (de_lst (da_cons (de_sto (de_callTy call_tuple_of cd_tup (by rfl) T.n_tuple (by rfl) (da_cons (de_lc (own := [("it", 3)]) rfl nd (di_seq (de_var 1)) (blkOk_by (by rfl)) (fun _ _ _ _ _ => dg_name nd rfl (by first | exact Or.inl rfl | exact Or.inr rfl)) (fun _ _ _ _ _ => dts_nil) (fun _ _ _ _ _ => de_sto (de_if (dt_cmp (op_eqA hr.units) od_eqA (de_var 3) (de_int) (by first | rfl | exact nobehind _ (by decide) (by decide))) (de_bl) (de_var 3)))) (da_nil)))) (da_cons (de_sto (de_callTy call_tuple_of cd_tup (by rfl) T.n_tuple (by rfl) (da_cons (de_lc (own := [("it", 3)]) rfl nd (di_seq (de_var 1)) (blkOk_by (by rfl)) (fun _ _ _ _ _ => dg_name nd rfl (by first | exact Or.inl rfl | exact Or.inr rfl)) (fun _ _ _ _ _ => dts_nil) (fun _ _ _ _ _ => de_sto (de_if (dt_cmp (op_eqA hr.units) od_eqA (de_var 3) (de_int) (by first | rfl | exact nobehind _ (by decide) (by decide))) (de_bl) (de_var 3)))) (da_nil)))) (da_nil))))))) (dss_one (ds_ret (de_call ((ok__law_pick (gd := gd) T B).mono (by decide)) hr hgd tk (by rfl) T.g__law_pick T.F__law_pick.kp (b__law_pick T) (da_cons (de_var 0) (da_cons (de_sto (de_bin op_addAll od_addAll (de_var 2) (de_lst (da_cons (de_sto (de_callTy call_tuple_of cd_tup (by rfl) T.n_tuple (by rfl) (da_cons (de_lc (own := [("it", 3)]) rfl nd (di_seq (de_var 1)) (blkOk_by (by rfl)) (fun _ _ _ _ _ => dg_name nd rfl (by first | exact Or.inl rfl | exact Or.inr rfl)) (fun _ _ _ _ _ => dts_nil) (fun _ _ _ _ _ => de_sto (de_callTy call_str_int cd_str (by rfl) T.n_str (by rfl) (da_cons (de_var 3) (da_nil))))) (da_nil)))) (da_cons (de_sto (de_tupRg1 rfl (by rfl) T.n_tuple (by rfl) T.n_range (de_int))) (da_cons (de_sto (de_callTy call_tuple_of cd_tup (by rfl) T.n_tuple (by rfl) (da_cons (de_bin op_addAll od_addAll (de_lst (da_cons (de_non) (da_nil))) (de_callTy call_list_of cd_lst (by rfl) T.n_list (by rfl) (da_cons (de_slice (de_var 1) (do_some (de_int)) (do_no)) (da_nil)))) (da_nil)))) (da_nil))))))) (da_nil))))))))
theorem ok_rows_of_heights {gd : Bool} (T : Txt K mg A) (B : Bas mg base A) : FnG gd P w K mg base 2 A.f_rows_of_heights A.d_rows_of_heights ["many"] (spD K A.T A.cls 1 F_rows_of_heights) :=
  fn_denX (k := 1) T.F_rows_of_heights sc_rows_of_heights rfl (by decide) fun cdv A0 outer s H E H0 S0 F0 L W hr hgd hcode tk hpo => by
  have nd : (["many", "found", "turn", "row", "height"] : List Str).Nodup := by decide
  exact dss_cons (ds_set (i := 1) nd rfl (by first | exact Or.inl rfl | exact Or.inr rfl) (de_stb (de_lst (da_cons (de_tup (da_nil)) (da_nil))))) (dss_cons (ds_for hpo rfl (di_range1 (by rfl) T.n_range (da_cons (de_var 0) (da_nil))) (dg_name nd rfl (by first | exact Or.inl rfl | exact Or.inr rfl)) (dss_one (by first | exact ds_set (i := 1) nd rfl (by first | exact Or.inl rfl | exact Or.inr rfl) (de_lc2 (own := [("row", 3), ("height", 4)]) (vs1 := [4]) rfl nd (di_seq (de_var 1)) (blkOk_by (by rfl)) (by decide) (fun _ _ _ _ _ => dg_name nd rfl (by first | exact Or.inl rfl | exact Or.inr rfl)) (fun _ _ _ _ _ => dts_nil) (fun _ _ _ _ _ => di_range1 (by rfl) T.n_range (da_cons (de_var 0) (da_nil))) (fun _ _ _ _ _ => dg_name nd rfl (by first | exact Or.inl rfl | exact Or.inr rfl)) (fun _ _ _ _ _ => dts_one (dt_cmp op_notIn_seq od_in (de_var 4) (de_var 3) (by first | rfl | exact nobehind _ (by decide) (by decide)))) (fun _ _ _ _ _ => de_sto (de_bin op_addAll od_addAll (de_var 3) (de_tup (da_cons (de_sto (de_var 4)) (da_nil)))))) | exact ds_setLc2 (i := 1) (y := "found") (own := [("row", 3), ("height", 4)]) (vs1 := [4]) rfl nd rfl rfl rfl (di_seq (de_var 1)) (blkOk_by (by rfl)) (by decide) (fun _ _ _ _ _ => dg_name nd rfl (by first | exact Or.inl rfl | exact Or.inr rfl)) (fun _ _ _ _ _ => dts_nil) (fun _ _ _ _ _ => di_range1 (by rfl) T.n_range (da_cons (de_var 0) (da_nil))) (fun _ _ _ _ _ => dg_name nd rfl (by first | exact Or.inl rfl | exact Or.inr rfl)) (fun _ _ _ _ _ => dts_one (dt_cmp op_notIn_seq od_in (de_var 4) (de_var 3) (by first | rfl | exact nobehind _ (by decide) (by decide)))) (fun _ _ _ _ _ => de_sto (de_bin op_addAll od_addAll (de_var 3) (de_tup (da_cons (de_sto (de_var 4)) (da_nil)))))))) (dss_one (ds_ret (de_var 1))))
theorem ok_folds_of {gd : Bool} (T : Txt K mg A) (B : Bas mg base A) : FnG gd P w K mg base 4 A.f_folds_of A.d_folds_of ["many", "above"] (spD K A.T A.cls 2 F_folds_of) :=
  fn_denX (k := 3) T.F_folds_of sc_folds_of rfl (by decide) fun cdv A0 outer s H E H0 S0 F0 L W hr hgd hcode tk hpo => by
  have nd : (["many", "above", "found", "layers", "one", "other"] : List Str).Nodup := by decide
  exact dss_cons (ds_set (i := 2) nd rfl (by first | exact Or.inl rfl | exact Or.inr rfl) (de_stb (de_lst (da_nil)))) (dss_cons (ds_for hpo rfl (di_seq (de_call ((ok_rows_of_heights (gd := gd) T B).mono (by decide)) hr hgd tk (by rfl) T.g_rows_of_heights T.F_rows_of_heights.kp (b_rows_of_heights T) (da_cons (de_sto (de_var 0)) (da_nil)))) (dg_name nd rfl (by first | exact Or.inl rfl | exact Or.inr rfl)) (dss_one (ds_if (dt_bool (dw_and (dt_val (de_callB (cr_all rfl) cd_all (by rfl) T.n_all (by rfl) (da_cons (de_lc (own := [("one", 4), ("other", 5)]) rfl nd (di_seq (de_var 1)) (blkOk_by (by rfl)) (fun _ _ _ _ _ => dg_tup rfl (dgs_cons (dg_name nd rfl (by first | exact Or.inl rfl | exact Or.inr rfl)) (dgs_cons (dg_name nd rfl (by first | exact Or.inl rfl | exact Or.inr rfl)) (dgs_nil)))) (fun _ _ _ _ _ => dts_nil) (fun _ _ _ _ _ => de_cmp op_gt od_gt (de_ix ix_seq od_ix (de_var 3) (de_var 4)) (de_ix ix_seq od_ix (de_var 3) (de_var 5)) (by first | rfl | exact nobehind _ (by decide) (by decide)))) (da_nil)))) (dw_one (dt_not (dt_val (de_call ((ok_has_crossing (gd := gd) T B).mono (by decide)) hr hgd tk (by rfl) T.g_has_crossing T.F_has_crossing.kp (b_has_crossing T) (da_cons (de_sto (de_var 3)) (da_nil)))))))) (dss_one (ds_expr (de_app (i := 2) (pv 2) (da_cons (de_sto (de_var 3)) (da_nil))))) (dss_nil)))) (dss_one (ds_ret (de_var 2))))
theorem ok_is_tuple_of {gd : Bool} (T : Txt K mg A) (B : Bas mg base A) : FnG gd P w K mg base 2 A.f_is_tuple_of A.d_is_tuple_of ["thing", "many"] (spD K A.T A.cls 2 F_is_tuple_of) :=
  fn_denX (k := 1) T.F_is_tuple_of sc_is_tuple_of rfl (by decide) fun cdv A0 outer s H E H0 S0 F0 L W hr hgd hcode tk hpo => by
  have nd : (["thing", "many"] : List Str).Nodup := by decide
  exact dss_one (ds_ret (de_and (de_isi .tup (by rfl) T.n_isinstance (by rfl) T.n_tuple (de_var 0)) (de_one (de_cmp (op_eqA hr.units) od_eqA (de_callB call_len cd_len (by rfl) T.n_len (by rfl) (da_cons (de_var 0) (da_nil))) (de_var 1) (by first | rfl | exact nobehind _ (by decide) (by decide))))))
theorem ok_is_above {gd : Bool} (T : Txt K mg A) (B : Bas mg base A) : FnG gd P w K mg base 4 A.f_is_above A.d_is_above ["many", "thing"] (spD K A.T A.cls 2 F_is_above) :=
  fn_denX (k := 3) T.F_is_above sc_is_above rfl (by decide) fun cdv A0 outer s H E H0 S0 F0 L W hr hgd hcode tk hpo => by
  have nd : (["many", "thing", "pair", "one", "other", "panel"] : List Str).Nodup := by decide
  exact dss_cons (ds_if (dt_bool (dw_or (dt_not (dt_val (de_isi .tup (by rfl) T.n_isinstance (by rfl) T.n_tuple (de_var 1)))) (dw_one (dt_cmp op_gt od_gt (de_callB call_len cd_len (by rfl) T.n_len (by rfl) (da_cons (de_var 1) (da_nil))) (de_bin op_mul od_mul (de_var 0) (de_var 0)) (by first | rfl | exact nobehind _ (by decide) (by decide)))))) (dss_one (ds_ret (de_bl))) (dss_nil)) (dss_cons (ds_for hpo rfl (di_seq (de_var 1)) (dg_name nd rfl (by first | exact Or.inl rfl | exact Or.inr rfl)) (dss_cons (ds_if (dt_bool (dw_or (dt_not (dt_val (de_call ((ok_is_tuple_of (gd := gd) T B).mono (by decide)) hr hgd tk (by rfl) T.g_is_tuple_of T.F_is_tuple_of.kp (b_is_tuple_of T) (da_cons (de_sto (de_var 2)) (da_cons (de_int) (da_nil)))))) (dw_one (dt_not (dt_val (de_callB (cr_all rfl) cd_all (by rfl) T.n_all (by rfl) (da_cons (de_lc (own := [("panel", 5)]) rfl nd (di_seq (de_var 2)) (blkOk_by (by rfl)) (fun _ _ _ _ _ => dg_name nd rfl (by first | exact Or.inl rfl | exact Or.inr rfl)) (fun _ _ _ _ _ => dts_nil) (fun _ _ _ _ _ => de_sto (de_call ((ok_is_whole_between (gd := gd) T B).mono (by decide)) hr hgd LamX.takes0 (by rfl) T.g_is_whole_between T.F_is_whole_between.kp (b_is_whole_between T) (da_cons (de_sto (de_var 5)) (da_cons (de_int) (da_cons (de_bin op_sub od_sub (de_var 0) (de_int)) (da_nil))))))) (da_nil)))))))) (dss_one (ds_ret (de_bl))) (dss_nil)) (dss_one (ds_if (dt_cmp (op_eqA hr.units) od_eqA (de_ix ix_seq od_ix (de_var 2) (de_int)) (de_ix ix_seq od_ix (de_var 2) (de_int)) (by first | rfl | exact nobehind _ (by decide) (by decide))) (dss_one (ds_ret (de_bl))) (dss_nil))))) (dss_one (ds_ret (de_callB (cr_all rfl) cd_all (by rfl) T.n_all (by rfl) (da_cons (de_lc (own := [("one", 3), ("other", 4)]) rfl nd (di_zip (by rfl) T.n_zip (de_var 1) (de_slice (de_var 1) (do_some (de_int)) (do_no))) (blkOk_by (by rfl)) (fun _ _ _ _ _ => dg_tup rfl (dgs_cons (dg_name nd rfl (by first | exact Or.inl rfl | exact Or.inr rfl)) (dgs_cons (dg_name nd rfl (by first | exact Or.inl rfl | exact Or.inr rfl)) (dgs_nil)))) (fun _ _ _ _ _ => dts_nil) (fun _ _ _ _ _ => de_cmp (op_ltA hr.units0) od_ltA (de_var 3) (de_var 4) (by first | rfl | exact nobehind _ (by decide) (by decide)))) (da_nil))))))
theorem ok_need_strip {gd : Bool} (T : Txt K mg A) (B : Bas mg base A) : FnG gd P w K mg base 5 A.f_need_strip A.d_need_strip ["many", "above"] (spD K A.T A.cls 2 F_need_strip) :=
  fn_denX (k := 4) T.F_need_strip sc_need_strip rfl (by decide) fun cdv A0 outer s H E H0 S0 F0 L W hr hgd hcode tk hpo => by
  have nd : (["many", "above"] : List Str).Nodup := by decide
  exact dss_cons (ds_if (dt_not (dt_val (de_call ((ok_is_whole_between (gd := gd) T B).mono (by decide)) hr hgd tk (by rfl) T.g_is_whole_between T.F_is_whole_between.kp (b_is_whole_between T) (da_cons (de_sto (de_var 0)) (da_cons (de_int) (da_cons (de_sto (de_glob (d := .int c_MOST_PANELS) (v := .int c_MOST_PANELS) (by rfl) T.v_MOST_PANELS ⟨_, rfl⟩ (fun _ => rfl))) (da_nil))))))) (dss_one (ds_raise (k := 1) T.e_BadPanels rfl T.i_BadPanels T.t_BadPanels (thing_fn T.f_BadPanels sc_BadPanels rfl) (hr.mono (by decide)) (b_BadPanels T) rfl tk (by rfl) T.g_BadPanels (de_var 0))) (dss_nil)) (dss_one (ds_if (dt_not (dt_val (de_call ((ok_is_above (gd := gd) T B).mono (by decide)) hr hgd tk (by rfl) T.g_is_above T.F_is_above.kp (b_is_above T) (da_cons (de_sto (de_var 0)) (da_cons (de_sto (de_var 1)) (da_nil)))))) (dss_one (ds_raise (k := 1) T.e_BadAbove rfl T.i_BadAbove T.t_BadAbove (thing_fn T.f_BadAbove sc_BadAbove rfl) (hr.mono (by decide)) (b_BadAbove T) rfl tk (by rfl) T.g_BadAbove (de_var 1))) (dss_nil)))
theorem ok_folds {gd : Bool} (T : Txt K mg A) (B : Bas mg base A) : FnG gd P w K mg base 6 A.f_folds A.d_folds ["many", "above"] (spD K A.T A.cls 2 F_folds) :=
  fn_denX (k := 5) T.F_folds sc_folds rfl (by decide) fun cdv A0 outer s H E H0 S0 F0 L W hr hgd hcode tk hpo => by
  have nd : (["many", "above"] : List Str).Nodup := by decide
  exact dss_cons (ds_expr (de_call ((ok_need_strip (gd := gd) T B).mono (by decide)) hr hgd tk (by rfl) T.g_need_strip T.F_need_strip.kp (b_need_strip T) (da_cons (de_sto (de_var 0)) (da_cons (de_sto (de_var 1)) (da_nil))))) (dss_one (ds_ret (de_callTy call_tuple_of cd_tup (by rfl) T.n_tuple (by rfl) (da_cons (de_call ((ok_folds_of (gd := gd) T B).mono (by decide)) hr hgd tk (by rfl) T.g_folds_of T.F_folds_of.kp (b_folds_of T) (da_cons (de_sto (de_var 0)) (da_cons (de_sto (de_var 1)) (da_nil)))) (da_nil)))))
theorem ok__law_are_refused {gd : Bool} (T : Txt K mg A) (B : Bas mg base A) : FnG gd P w K mg base 9 A.f__law_are_refused A.d__law_are_refused ["deck", "many", "above"] (spD K A.T A.cls 3 F__law_are_refused) :=
  fn_denX (k := 8) T.F__law_are_refused sc__law_are_refused rfl (by decide) fun cdv A0 outer s H E H0 S0 F0 L W hr hgd hcode tk hpo => by
  have nd : (["deck", "many", "above", "none", "odd", "bad", "told"] : List Str).Nodup := by decide
  exact dss_cons (ds_set (i := 3) nd rfl (by first | exact Or.inl rfl | exact Or.inr rfl) (de_stb (de_call ((ok__law_pick (gd := gd) T B).mono (by decide)) hr hgd tk (by rfl) T.g__law_pick T.F__law_pick.kp (b__law_pick T) (da_cons (de_var 0) (da_cons (de_sto (de_lst (da_cons (de_non) (da_cons (de_sto (de_un un_neg ud_neg (de_int))) (da_cons (de_bl) (da_cons (de_str) (da_cons (de_tup (da_cons (de_int) (da_nil))) (da_cons (de_sto (de_lst (da_nil))) (da_cons (de_bl) (da_cons (de_int) (da_cons (de_int) (da_cons (de_bin op_pow od_pow (de_int) (de_int)) (da_nil))))))))))))) (da_nil)))))) (dss_cons (ds_set (i := 4) nd rfl (by first | exact Or.inl rfl | exact Or.inr rfl) (de_stb (de_lst (da_cons (de_non) (da_cons (de_sto (de_callTy call_list_of cd_lst (by rfl) T.n_list (by rfl) (da_cons (de_var 2) (da_nil)))) (da_cons (de_tup (da_cons (de_tup (da_cons (de_int) (da_cons (de_int) (da_nil)))) (da_nil))) (da_cons (de_tup (da_cons (de_tup (da_cons (de_int) (da_cons (de_sto (de_var 1)) (da_nil)))) (da_nil))) (da_cons (de_tup (da_cons (de_tup (da_cons (de_sto (de_un un_neg ud_neg (de_int))) (da_cons (de_int) (da_nil)))) (da_nil))) (da_cons (de_tup (da_cons (de_tup (da_cons (de_int) (da_nil))) (da_nil))) (da_cons (de_tup (da_cons (de_tup (da_cons (de_int) (da_cons (de_int) (da_cons (de_int) (da_nil))))) (da_nil))) (da_cons (de_tup (da_cons (de_int) (da_cons (de_int) (da_nil)))) (da_cons (de_str) (da_cons (de_tup (da_cons (de_sto (de_lst (da_cons (de_int) (da_cons (de_int) (da_nil))))) (da_nil))) (da_cons (de_tup (da_cons (de_tup (da_cons (de_int) (da_cons (de_non) (da_nil)))) (da_nil))) (da_cons (de_tup (da_cons (de_tup (da_cons (de_sto (de_var 1)) (da_cons (de_int) (da_nil)))) (da_nil))) (da_nil)))))))))))))))) (dss_cons (ds_set (i := 4) nd rfl (by first | exact Or.inl rfl | exact Or.inr rfl) (de_stb (de_bin op_addAll od_addAll (de_var 4) (de_lst (da_cons (de_tup (da_cons (de_tup (da_cons (de_int) (da_cons (de_int) (da_nil)))) (da_cons (de_tup (da_cons (de_int) (da_cons (de_int) (da_nil)))) (da_nil)))) (da_cons (de_tup (da_cons (de_tup (da_cons (de_int) (da_cons (de_int) (da_nil)))) (da_cons (de_tup (da_cons (de_int) (da_cons (de_int) (da_nil)))) (da_nil)))) (da_cons (de_tup (da_cons (de_tup (da_cons (de_int) (da_cons (de_bl) (da_nil)))) (da_nil))) (da_cons (de_tup (da_cons (de_tup (da_cons (de_bl) (da_cons (de_int) (da_nil)))) (da_nil))) (da_nil))))))))) (dss_cons (ds_set (i := 5) nd rfl (by first | exact Or.inl rfl | exact Or.inr rfl) (de_stb (de_call ((ok__law_pick (gd := gd) T B).mono (by decide)) hr hgd tk (by rfl) T.g__law_pick T.F__law_pick.kp (b__law_pick T) (da_cons (de_var 0) (da_cons (de_sto (de_var 4)) (da_nil)))))) (dss_cons (ds_set (i := 6) nd rfl (by first | exact Or.inl rfl | exact Or.inr rfl) (de_stb (de_lst (da_cons (de_sto (de_heard (Ng := ["call", "e"]) (by rfl) T.g__law_heard T.F__law_heard.kp T.F__law_heard (b__law_heard T) sc__law_heard rfl (fun cdv hcd => gives_T (i := 1) (xm__law_heard T) (by decide) rfl (by decide) rfl (fun s H => hd__law_heard T rfl)) B.t__law_are_refused (hcode.symm.trans T.o__law_are_refused) T.ti__law_are_refused T.tu__law_are_refused hr (LamX.lamS_by (by rfl)) rfl (fun _ _ _ _ _ => rfl) (fun A outer s H E' f' c' hr => de_sto (de_call ((ok_folds (gd := false) T B).mono (by decide)) hr (fun h => Bool.noConfusion h) lam_takes (by rfl) T.g_folds T.F_folds.kp (b_folds T) (da_cons (de_sto (de_var 3)) (da_cons (de_sto (de_var 5)) (da_nil))))))) (da_nil))))) (dss_cons (ds_expr (de_app (i := 6) (pv 6) (da_cons (de_sto (de_heard (Ng := ["call", "e"]) (by rfl) T.g__law_heard T.F__law_heard.kp T.F__law_heard (b__law_heard T) sc__law_heard rfl (fun cdv hcd => gives_T (i := 1) (xm__law_heard T) (by decide) rfl (by decide) rfl (fun s H => hd__law_heard T rfl)) B.t__law_are_refused (hcode.symm.trans T.o__law_are_refused) T.ti__law_are_refused T.tu__law_are_refused hr (LamX.lamS_by (by rfl)) rfl (fun _ _ _ _ _ => rfl) (fun A outer s H E' f' c' hr => de_sto (de_callK0 (ks := ["above", "many"]) (π := [1, 0]) ((ok_folds (gd := false) T B).mono (by decide)) hr (fun h => Bool.noConfusion h) lam_takes (by rfl) T.g_folds T.F_folds.kp (kb_folds_0_above_many T) (dk_cons (de_tup (da_nil)) (dk_cons (de_sto (de_var 3)) (dk_nil))))))) (da_nil)))) (dss_cons (ds_expr (de_app (i := 6) (pv 6) (da_cons (de_sto (de_heard (Ng := ["call", "e"]) (by rfl) T.g__law_heard T.F__law_heard.kp T.F__law_heard (b__law_heard T) sc__law_heard rfl (fun cdv hcd => gives_T (i := 1) (xm__law_heard T) (by decide) rfl (by decide) rfl (fun s H => hd__law_heard T rfl)) B.t__law_are_refused (hcode.symm.trans T.o__law_are_refused) T.ti__law_are_refused T.tu__law_are_refused hr (LamX.lamS_by (by rfl)) rfl (fun _ _ _ _ _ => rfl) (fun A outer s H E' f' c' hr => de_sto (de_callK0 (ks := ["above", "many"]) (π := [1, 0]) ((ok_folds (gd := false) T B).mono (by decide)) hr (fun h => Bool.noConfusion h) lam_takes (by rfl) T.g_folds T.F_folds.kp (kb_folds_0_above_many T) (dk_cons (de_sto (de_var 5)) (dk_cons (de_sto (de_var 1)) (dk_nil))))))) (da_nil)))) (dss_one (ds_ret (de_call ((ok__law_same (gd := gd) T B).mono (by decide)) hr hgd tk (by rfl) T.g__law_same T.F__law_same.kp (b__law_same T) (da_cons (de_sto (de_var 6)) (da_cons (de_sto (de_lst (da_cons (de_tup (da_cons (de_str) (da_cons (de_sto (de_var 3)) (da_cons (de_bl) (da_nil))))) (da_cons (de_tup (da_cons (de_str) (da_cons (de_sto (de_var 3)) (da_cons (de_bl) (da_nil))))) (da_cons (de_tup (da_cons (de_str) (da_cons (de_sto (de_var 5)) (da_cons (de_bl) (da_nil))))) (da_nil)))))) (da_nil))))))))))))
theorem ok__law_mixed {gd : Bool} (T : Txt K mg A) (B : Bas mg base A) : FnG gd P w K mg base 3 A.f__law_mixed A.d__law_mixed ["deck", "some"] (spD K A.T A.cls 2 F__law_mixed) :=
  fn_denX (k := 2) T.F__law_mixed sc__law_mixed rfl (by decide) fun cdv A0 outer s H E H0 S0 F0 L W hr hgd hcode tk hpo => by
  have nd : (["deck", "some", "left", "found"] : List Str).Nodup := by decide
  exact dss_cons (ds_par (i := 2) (j := 3) rfl nd rfl rfl (by decide) rfl rfl (de_stb (de_callTy call_list_of cd_lst (by rfl) T.n_list (by rfl) (da_cons (de_var 1) (da_nil)))) (de_stb (de_lst (da_nil))) rfl) (dss_cons (ds_while (n := fuel) hpo (dt_cmp (op_neA hr.units) od_neA (de_var 2) (de_lst (da_nil)) (by first | rfl | exact nobehind _ (by decide) (by decide))) (dss_one (ds_expr (de_app (i := 3) (pv 3) (da_cons (de_sto (de_popAt (i := 2) (pv 2) (da_cons (de_call ((ok__law_draw (gd := gd) T B).mono (by decide)) hr hgd tk (by rfl) T.g__law_draw T.F__law_draw.kp (b__law_draw T) (da_cons (de_var 0) (da_cons (de_sto (de_callB call_len cd_len (by rfl) T.n_len (by rfl) (da_cons (de_var 2) (da_nil)))) (da_nil)))) (da_nil)))) (da_nil)))))) (dss_one (ds_ret (de_var 3))))
theorem ok__law_above {gd : Bool} (T : Txt K mg A) (B : Bas mg base A) : FnG gd P w K mg base 4 A.f__law_above A.d__law_above ["deck", "many", "fold"] (spD K A.T A.cls 3 F__law_above) :=
  fn_denX (k := 3) T.F__law_above sc__law_above rfl (by decide) fun cdv A0 outer s H E H0 S0 F0 L W hr hgd hcode tk hpo => by
  have nd : (["deck", "many", "fold", "pairs", "i", "way", "j"] : List Str).Nodup := by decide
  exact dss_cons (ds_set (i := 3) nd rfl (by first | exact Or.inl rfl | exact Or.inr rfl) (de_stb (de_lst (da_nil)))) (dss_cons (ds_for hpo rfl (di_range1 (by rfl) T.n_range (da_cons (de_var 1) (da_nil))) (dg_name nd rfl (by first | exact Or.inl rfl | exact Or.inr rfl)) (dss_one (ds_expr (de_ext (i := 3) (pv 3) (da_cons (de_lc (own := [("j", 6)]) rfl nd (di_range1 (by rfl) T.n_range (da_cons (de_var 1) (da_nil))) (blkOk_by (by rfl)) (fun _ _ _ _ _ => dg_name nd rfl (by first | exact Or.inl rfl | exact Or.inr rfl)) (fun _ _ _ _ _ => dts_one (dt_cmp (op_neA hr.units) od_neA (de_var 4) (de_var 6) (by first | rfl | exact nobehind _ (by decide) (by decide)))) (fun _ _ _ _ _ => de_tup (da_cons (de_sto (de_var 4)) (da_cons (de_sto (de_var 6)) (da_nil))))) (da_nil)))))) (dss_cons (ds_set (i := 5) nd rfl (by first | exact Or.inl rfl | exact Or.inr rfl) (de_stb (de_call ((ok__law_draw (gd := gd) T B).mono (by decide)) hr hgd tk (by rfl) T.g__law_draw T.F__law_draw.kp (b__law_draw T) (da_cons (de_var 0) (da_cons (de_int) (da_nil)))))) (dss_cons (ds_if (dt_cmp (op_ltA hr.units0) od_ltA (de_var 5) (de_int) (by first | rfl | exact nobehind _ (by decide) (by decide))) (dss_one (by first | exact ds_set (i := 3) nd rfl (by first | exact Or.inl rfl | exact Or.inr rfl) (de_lc (own := [("i", 4), ("j", 6)]) rfl nd (di_seq (de_var 3)) (blkOk_by (by rfl)) (fun _ _ _ _ _ => dg_tup rfl (dgs_cons (dg_name nd rfl (by first | exact Or.inl rfl | exact Or.inr rfl)) (dgs_cons (dg_name nd rfl (by first | exact Or.inl rfl | exact Or.inr rfl)) (dgs_nil)))) (fun _ _ _ _ _ => dts_one (dt_cmp op_gt od_gt (de_ix ix_seq od_ix (de_var 2) (de_var 4)) (de_ix ix_seq od_ix (de_var 2) (de_var 6)) (by first | rfl | exact nobehind _ (by decide) (by decide)))) (fun _ _ _ _ _ => de_tup (da_cons (de_sto (de_var 4)) (da_cons (de_sto (de_var 6)) (da_nil))))) | exact ds_setLc (i := 3) (y := "pairs") (own := [("i", 4), ("j", 6)]) rfl nd rfl rfl rfl (di_seq (de_var 3)) (blkOk_by (by rfl)) (fun _ _ _ _ _ => dg_tup rfl (dgs_cons (dg_name nd rfl (by first | exact Or.inl rfl | exact Or.inr rfl)) (dgs_cons (dg_name nd rfl (by first | exact Or.inl rfl | exact Or.inr rfl)) (dgs_nil)))) (fun _ _ _ _ _ => dts_one (dt_cmp op_gt od_gt (de_ix ix_seq od_ix (de_var 2) (de_var 4)) (de_ix ix_seq od_ix (de_var 2) (de_var 6)) (by first | rfl | exact nobehind _ (by decide) (by decide)))) (fun _ _ _ _ _ => de_tup (da_cons (de_sto (de_var 4)) (da_cons (de_sto (de_var 6)) (da_nil)))))) (dss_nil)) (dss_cons (ds_if (dt_cmp (op_eqA hr.units) od_eqA (de_var 5) (de_int) (by first | rfl | exact nobehind _ (by decide) (by decide))) (dss_cons (by first | exact ds_set (i := 3) nd rfl (by first | exact Or.inl rfl | exact Or.inr rfl) (de_lc (own := [("i", 4)]) rfl nd (di_range1 (by rfl) T.n_range (da_cons (de_bin op_sub od_sub (de_var 1) (de_int)) (da_nil))) (blkOk_by (by rfl)) (fun _ _ _ _ _ => dg_name nd rfl (by first | exact Or.inl rfl | exact Or.inr rfl)) (fun _ _ _ _ _ => dts_nil) (fun _ _ _ _ _ => de_sto (de_if (dt_cmp (op_eqA hr.units) od_eqA (de_call ((ok__law_draw (gd := gd) T B).mono (by decide)) hr hgd LamX.takes0 (by rfl) T.g__law_draw T.F__law_draw.kp (b__law_draw T) (da_cons (de_var 0) (da_cons (de_int) (da_nil)))) (de_int) (by first | rfl | exact nobehind _ (by decide) (by decide))) (de_tup (da_cons (de_sto (de_var 4)) (da_cons (de_sto (de_bin op_addAll od_addAll (de_var 4) (de_int))) (da_nil)))) (de_tup (da_cons (de_sto (de_bin op_addAll od_addAll (de_var 4) (de_int))) (da_cons (de_sto (de_var 4)) (da_nil))))))) | exact ds_setLc (i := 3) (y := "pairs") (own := [("i", 4)]) rfl nd rfl rfl rfl (di_range1 (by rfl) T.n_range (da_cons (de_bin op_sub od_sub (de_var 1) (de_int)) (da_nil))) (blkOk_by (by rfl)) (fun _ _ _ _ _ => dg_name nd rfl (by first | exact Or.inl rfl | exact Or.inr rfl)) (fun _ _ _ _ _ => dts_nil) (fun _ _ _ _ _ => de_sto (de_if (dt_cmp (op_eqA hr.units) od_eqA (de_call ((ok__law_draw (gd := gd) T B).mono (by decide)) hr hgd LamX.takes0 (by rfl) T.g__law_draw T.F__law_draw.kp (b__law_draw T) (da_cons (de_var 0) (da_cons (de_int) (da_nil)))) (de_int) (by first | rfl | exact nobehind _ (by decide) (by decide))) (de_tup (da_cons (de_sto (de_var 4)) (da_cons (de_sto (de_bin op_addAll od_addAll (de_var 4) (de_int))) (da_nil)))) (de_tup (da_cons (de_sto (de_bin op_addAll od_addAll (de_var 4) (de_int))) (da_cons (de_sto (de_var 4)) (da_nil))))))) (dss_one (ds_ret (de_callTy call_tuple_of cd_tup (by rfl) T.n_tuple (by rfl) (da_cons (de_callB cr_srt cd_sorted (by rfl) T.n_sorted (by rfl) (da_cons (de_var 3) (da_nil))) (da_nil)))))) (dss_nil)) (dss_one (ds_ret (de_callTy call_tuple_of cd_tup (by rfl) T.n_tuple (by rfl) (da_cons (de_callB cr_srt cd_sorted (by rfl) T.n_sorted (by rfl) (da_cons (de_slice (de_call ((ok__law_mixed (gd := gd) T B).mono (by decide)) hr hgd tk (by rfl) T.g__law_mixed T.F__law_mixed.kp (b__law_mixed T) (da_cons (de_var 0) (da_cons (de_sto (de_var 3)) (da_nil)))) (do_no) (do_some (de_call ((ok__law_pick (gd := gd) T B).mono (by decide)) hr hgd tk (by rfl) T.g__law_pick T.F__law_pick.kp (b__law_pick T) (da_cons (de_var 0) (da_cons (de_sto (de_lst (da_cons (de_int) (da_cons (de_int) (da_cons (de_int) (da_cons (de_int) (da_cons (de_int) (da_nil)))))))) (da_nil)))))) (da_nil))) (da_nil)))))))))
theorem ok__law_orders {gd : Bool} (T : Txt K mg A) (B : Bas mg base A) : FnG gd P w K mg base 2 A.f__law_orders A.d__law_orders ["many"] (spD K A.T A.cls 1 F__law_orders) :=
  fn_denX (k := 1) T.F__law_orders sc__law_orders rfl (by decide) fun cdv A0 outer s H E H0 S0 F0 L W hr hgd hcode tk hpo => by
  have nd : (["many", "rows", "panel", "longer", "row", "height"] : List Str).Nodup := by decide
  exact dss_cons (ds_set (i := 1) nd rfl (by first | exact Or.inl rfl | exact Or.inr rfl) (de_stb (de_lst (da_cons (de_tup (da_nil)) (da_nil))))) (dss_cons (ds_for hpo rfl (di_range1 (by rfl) T.n_range (da_cons (de_var 0) (da_nil))) (dg_name nd rfl (by first | exact Or.inl rfl | exact Or.inr rfl)) (dss_cons (ds_set (i := 3) nd rfl (by first | exact Or.inl rfl | exact Or.inr rfl) (de_stb (de_lst (da_nil)))) (dss_cons (ds_for hpo rfl (di_seq (de_callTy call_list_of cd_lst (by rfl) T.n_list (by rfl) (da_cons (de_var 1) (da_nil)))) (dg_name nd rfl (by first | exact Or.inl rfl | exact Or.inr rfl)) (dss_one (ds_expr (de_ext (i := 3) (pv 3) (da_cons (de_lc (own := [("height", 5)]) rfl nd (di_range1 (by rfl) T.n_range (da_cons (de_var 0) (da_nil))) (blkOk_by (by rfl)) (fun _ _ _ _ _ => dg_name nd rfl (by first | exact Or.inl rfl | exact Or.inr rfl)) (fun _ _ _ _ _ => dts_one (dt_cmp op_notIn_seq od_in (de_var 5) (de_var 4) (by first | rfl | exact nobehind _ (by decide) (by decide)))) (fun _ _ _ _ _ => de_sto (de_bin op_addAll od_addAll (de_var 4) (de_tup (da_cons (de_sto (de_var 5)) (da_nil)))))) (da_nil)))))) (dss_one (ds_set (i := 1) nd rfl (by first | exact Or.inl rfl | exact Or.inr rfl) (de_stb (de_var 3))))))) (dss_one (ds_ret (de_var 1))))
theorem ok__law_deck {gd : Bool} (T : Txt K mg A) (B : Bas mg base A) : FnG gd P w K mg base 2 A.f__law_deck A.d__law_deck ["script", "salt"] (spD K A.T A.cls 2 F__law_deck) :=
  fn_denX (k := 1) T.F__law_deck sc__law_deck rfl (by decide) fun cdv A0 outer s H E H0 S0 F0 L W hr hgd hcode tk hpo => by
  have nd : (["script", "salt", "cell", "cells", "mixed"] : List Str).Nodup := by decide
  exact dss_cons (ds_par (i := 3) (j := 4) rfl nd rfl rfl (by decide) rfl rfl (de_stb (de_callTy call_list_of cd_lst (by rfl) T.n_list (by rfl) (da_cons (de_scrCut (i := 0) (pv 0) (do_no) (do_some (de_int))) (da_nil)))) (de_stb (de_bin op_addAll od_addAll (de_int) (de_var 1))) rfl) (dss_cons (ds_for hpo rfl (di_seq (de_var 3)) (dg_name nd rfl (by first | exact Or.inl rfl | exact Or.inr rfl)) (dss_one (ds_set (i := 4) nd rfl (by first | exact Or.inl rfl | exact Or.inr rfl) (de_bin op_modN od_mod (de_callTy call_int1 cd_int (by rfl) T.n_int (by rfl) (da_cons (de_bin op_addAll od_addAll (de_bin op_addAll od_addAll (de_bin op_mul od_mul (de_var 4) (de_int)) (de_bin op_modN od_mod (de_callTy call_int1 cd_int (by rfl) T.n_int (by rfl) (da_cons (de_var 2) (da_nil))) (de_int))) (de_int)) (da_nil))) (de_int))))) (dss_one (ds_ret (de_dkNew (ks := dks) (de_revL (de_var 3)) (de_var 4) (de_int)))))
theorem ok_law {gd : Bool} (hgd0 : gd = true) (T : Txt K mg A) (B : Bas mg base A) : FnG gd P w K mg base 12 A.f_law A.d_law ["script"] (spD K A.T A.cls 1 F_law) :=
  fn_denX (k := 11) T.F_law sc_law rfl (by decide) fun cdv A0 outer s H E H0 S0 F0 L W hr hgd hcode tk hpo => by
  have nd : (["script", "deck", "many", "orders", "flat", "number", "told", "turn", "above", "layers", "due", "kept", "odd", "near", "i", "j"] : List Str).Nodup := by decide
  exact dss_cons (ds_set (i := 1) nd rfl (by first | exact Or.inl rfl | exact Or.inr rfl) (de_stb (de_call ((ok__law_deck (gd := gd) T B).mono (by decide)) hr hgd tk (by rfl) T.g__law_deck T.F__law_deck.kp (b__law_deck T) (da_cons (de_sv 0) (da_cons (de_int) (da_nil)))))) (dss_cons (ds_set (i := 2) nd rfl (by first | exact Or.inl rfl | exact Or.inr rfl) (de_stb (de_call ((ok__law_pick (gd := gd) T B).mono (by decide)) hr hgd tk (by rfl) T.g__law_pick T.F__law_pick.kp (b__law_pick T) (da_cons (de_var 1) (da_cons (de_sto (de_lst (da_cons (de_int) (da_cons (de_int) (da_cons (de_int) (da_cons (de_int) (da_cons (de_int) (da_cons (de_int) (da_cons (de_int) (da_cons (de_int) (da_nil))))))))))) (da_nil)))))) (dss_cons (ds_set (i := 3) nd rfl (by first | exact Or.inl rfl | exact Or.inr rfl) (de_stb (de_call ((ok__law_orders (gd := gd) T B).mono (by decide)) hr hgd tk (by rfl) T.g__law_orders T.F__law_orders.kp (b__law_orders T) (da_cons (de_sto (de_var 2)) (da_nil))))) (dss_cons (by first | exact ds_set (i := 4) nd rfl (by first | exact Or.inl rfl | exact Or.inr rfl) (de_lc (own := [("layers", 9)]) rfl nd (di_seq (de_var 3)) (blkOk_by (by rfl)) (fun _ _ _ _ _ => dg_name nd rfl (by first | exact Or.inl rfl | exact Or.inr rfl)) (fun _ _ _ _ _ => dts_one (dt_val (de_call ((ok__law_is_flat (gd := gd) T B).mono (by decide)) hr hgd LamX.takes0 (by rfl) T.g__law_is_flat T.F__law_is_flat.kp (b__law_is_flat T) (da_cons (de_sto (de_var 9)) (da_nil))))) (fun _ _ _ _ _ => de_sto (de_var 9))) | exact ds_setLc (i := 4) (y := "flat") (own := [("layers", 9)]) rfl nd rfl rfl rfl (di_seq (de_var 3)) (blkOk_by (by rfl)) (fun _ _ _ _ _ => dg_name nd rfl (by first | exact Or.inl rfl | exact Or.inr rfl)) (fun _ _ _ _ _ => dts_one (dt_val (de_call ((ok__law_is_flat (gd := gd) T B).mono (by decide)) hr hgd LamX.takes0 (by rfl) T.g__law_is_flat T.F__law_is_flat.kp (b__law_is_flat T) (da_cons (de_sto (de_var 9)) (da_nil))))) (fun _ _ _ _ _ => de_sto (de_var 9))) (dss_cons (ds_set (i := 5) nd rfl (by first | exact Or.inl rfl | exact Or.inr rfl) (de_stb (de_ix ix_seq od_ix (de_lst (da_cons (de_int) (da_cons (de_int) (da_cons (de_int) (da_cons (de_int) (da_cons (de_int) (da_cons (de_int) (da_nil)))))))) (de_bin op_sub od_sub (de_var 2) (de_int))))) (dss_cons (ds_set (i := 6) nd rfl (by first | exact Or.inl rfl | exact Or.inr rfl) (de_stb (de_if (dt_cmp (op_eqA hr.units) od_eqA (de_call ((ok__law_draw (gd := gd) T B).mono (by decide)) hr hgd tk (by rfl) T.g__law_draw T.F__law_draw.kp (b__law_draw T) (da_cons (de_var 1) (da_cons (de_int) (da_nil)))) (de_int) (by first | rfl | exact nobehind _ (by decide) (by decide))) (de_call ((ok_folds (gd := gd) T B).mono (by decide)) hr hgd tk (by rfl) T.g_folds T.F_folds.kp (b_folds T) (da_cons (de_sto (de_var 2)) (da_cons (de_tup (da_nil)) (da_nil)))) (de_callK0 (ks := ["above", "many"]) (π := [1, 0]) ((ok_folds (gd := gd) T B).mono (by decide)) hr hgd tk (by rfl) T.g_folds T.F_folds.kp (kb_folds_0_above_many T) (dk_cons (de_tup (da_nil)) (dk_cons (de_sto (de_var 2)) (dk_nil))))))) (dss_cons (ds_if (dt_bool (dw_or (dt_cmp (op_neA hr.units) od_neA (de_callB call_len cd_len (by rfl) T.n_len (by rfl) (da_cons (de_var 4) (da_nil))) (de_var 5) (by first | rfl | exact nobehind _ (by decide) (by decide))) (dw_one (dt_not (dt_val (de_call ((ok__law_same (gd := gd) T B).mono (by decide)) hr hgd tk (by rfl) T.g__law_same T.F__law_same.kp (b__law_same T) (da_cons (de_sto (de_var 6)) (da_cons (de_sto (de_callTy call_tuple_of cd_tup (by rfl) T.n_tuple (by rfl) (da_cons (de_var 4) (da_nil)))) (da_nil))))))))) (dss_one (ds_ret (de_bl))) (dss_nil)) (dss_cons (ds_for hpo rfl (di_range1 (by rfl) T.n_range (da_cons (de_int) (da_nil))) (dg_name nd rfl (by first | exact Or.inl rfl | exact Or.inr rfl)) (dss_cons (ds_set (i := 8) nd rfl (by first | exact Or.inl rfl | exact Or.inr rfl) (de_stb (de_call ((ok__law_above (gd := gd) T B).mono (by decide)) hr hgd tk (by rfl) T.g__law_above T.F__law_above.kp (b__law_above T) (da_cons (de_var 1) (da_cons (de_sto (de_var 2)) (da_cons (de_sto (de_call ((ok__law_pick (gd := gd) T B).mono (by decide)) hr hgd tk (by rfl) T.g__law_pick T.F__law_pick.kp (b__law_pick T) (da_cons (de_var 1) (da_cons (de_sto (de_var 4)) (da_nil))))) (da_nil))))))) (dss_cons (ds_set (i := 10) nd rfl (by first | exact Or.inl rfl | exact Or.inr rfl) (de_stb (de_callTy call_tuple_of cd_tup (by rfl) T.n_tuple (by rfl) (da_cons (de_lc (own := [("layers", 9)]) rfl nd (di_seq (de_var 4)) (blkOk_by (by rfl)) (fun _ _ _ _ _ => dg_name nd rfl (by first | exact Or.inl rfl | exact Or.inr rfl)) (fun _ _ _ _ _ => dts_one (dt_cmp (op_eqA hr.units) od_eqA (de_lc (own := [("i", 14), ("j", 15)]) rfl nd (di_seq (de_var 8)) (blkOk_by (by rfl)) (fun _ _ _ _ _ => dg_tup rfl (dgs_cons (dg_name nd rfl (by first | exact Or.inl rfl | exact Or.inr rfl)) (dgs_cons (dg_name nd rfl (by first | exact Or.inl rfl | exact Or.inr rfl)) (dgs_nil)))) (fun _ _ _ _ _ => dts_one (dt_cmp (op_ltA hr.units0) od_ltA (de_ix ix_seq od_ix (de_var 9) (de_var 14)) (de_ix ix_seq od_ix (de_var 9) (de_var 15)) (by first | rfl | exact nobehind _ (by decide) (by decide)))) (fun _ _ _ _ _ => de_int)) (de_lst (da_nil)) (by first | rfl | exact nobehind _ (by decide) (by decide)))) (fun _ _ _ _ _ => de_sto (de_var 9))) (da_nil))))) (dss_cons (ds_set (i := 11) nd rfl (by first | exact Or.inl rfl | exact Or.inr rfl) (de_stb (de_callB (cr_repr hr.units (hgd hgd0)) cd_repr (by rfl) T.n_repr (by rfl) (da_cons (de_var 8) (da_nil))))) (dss_cons (ds_if (dt_bool (dw_or (dt_not (dt_val (de_call ((ok__law_same (gd := gd) T B).mono (by decide)) hr hgd tk (by rfl) T.g__law_same T.F__law_same.kp (b__law_same T) (da_cons (de_sto (de_lst (da_cons (de_sto (de_call ((ok_folds (gd := gd) T B).mono (by decide)) hr hgd tk (by rfl) T.g_folds T.F_folds.kp (b_folds T) (da_cons (de_sto (de_var 2)) (da_cons (de_sto (de_var 8)) (da_nil))))) (da_cons (de_sto (de_callK0 (ks := ["above", "many"]) (π := [1, 0]) ((ok_folds (gd := gd) T B).mono (by decide)) hr hgd tk (by rfl) T.g_folds T.F_folds.kp (kb_folds_0_above_many T) (dk_cons (de_sto (de_var 8)) (dk_cons (de_sto (de_var 2)) (dk_nil))))) (da_nil))))) (da_cons (de_sto (de_lst (da_cons (de_sto (de_var 10)) (da_cons (de_sto (de_var 10)) (da_nil))))) (da_nil)))))) (dw_one (dt_cmp (op_neA hr.units) od_neA (de_callB (cr_repr hr.units (hgd hgd0)) cd_repr (by rfl) T.n_repr (by rfl) (da_cons (de_var 8) (da_nil))) (de_var 11) (by first | rfl | exact nobehind _ (by decide) (by decide)))))) (dss_one (ds_ret (de_bl))) (dss_nil)) (dss_one (ds_if (dt_not (dt_val (de_call ((ok__law_are_refused (gd := gd) T B).mono (by decide)) hr hgd tk (by rfl) T.g__law_are_refused T.F__law_are_refused.kp (b__law_are_refused T) (da_cons (de_var 1) (da_cons (de_sto (de_var 2)) (da_cons (de_sto (de_var 8)) (da_nil))))))) (dss_one (ds_ret (de_bl))) (dss_nil)))))))) (dss_cons (ds_set (i := 8) nd rfl (by first | exact Or.inl rfl | exact Or.inr rfl) (de_stb (de_callTy call_tuple_of cd_tup (by rfl) T.n_tuple (by rfl) (da_cons (de_callB cr_srt cd_sorted (by rfl) T.n_sorted (by rfl) (da_cons (de_lc (own := [("i", 14)]) rfl nd (di_range1 (by rfl) T.n_range (da_cons (de_bin op_sub od_sub (de_var 2) (de_int)) (da_nil))) (blkOk_by (by rfl)) (fun _ _ _ _ _ => dg_name nd rfl (by first | exact Or.inl rfl | exact Or.inr rfl)) (fun _ _ _ _ _ => dts_nil) (fun _ _ _ _ _ => de_sto (de_if (dt_cmp (op_eqA hr.units) od_eqA (de_call ((ok__law_draw (gd := gd) T B).mono (by decide)) hr hgd LamX.takes0 (by rfl) T.g__law_draw T.F__law_draw.kp (b__law_draw T) (da_cons (de_var 1) (da_cons (de_int) (da_nil)))) (de_int) (by first | rfl | exact nobehind _ (by decide) (by decide))) (de_tup (da_cons (de_sto (de_var 14)) (da_cons (de_sto (de_bin op_addAll od_addAll (de_var 14) (de_int))) (da_nil)))) (de_tup (da_cons (de_sto (de_bin op_addAll od_addAll (de_var 14) (de_int))) (da_cons (de_sto (de_var 14)) (da_nil))))))) (da_nil))) (da_nil))))) (dss_cons (ds_set (i := 6) nd rfl (by first | exact Or.inl rfl | exact Or.inr rfl) (de_stb (de_call ((ok_folds (gd := gd) T B).mono (by decide)) hr hgd tk (by rfl) T.g_folds T.F_folds.kp (b_folds T) (da_cons (de_sto (de_var 2)) (da_cons (de_sto (de_var 8)) (da_nil)))))) (dss_cons (ds_if (dt_bool (dw_or (dt_not (dt_val (de_isi .tup (by rfl) T.n_isinstance (by rfl) T.n_tuple (de_var 6)))) (dw_one (dt_cmp (op_eqA hr.units) od_eqA (de_var 6) (de_tup (da_nil)) (by first | rfl | exact nobehind _ (by decide) (by decide)))))) (dss_one (ds_ret (de_bl))) (dss_nil)) (dss_cons (ds_for hpo rfl (di_seq (de_bin op_addAll od_addAll (de_lc (own := [("turn", 7)]) rfl nd (di_range1 (by rfl) T.n_range (da_cons (de_int) (da_nil))) (blkOk_by (by rfl)) (fun _ _ _ _ _ => dg_name nd rfl (by first | exact Or.inl rfl | exact Or.inr rfl)) (fun _ _ _ _ _ => dts_nil) (fun _ _ _ _ _ => de_sto (de_call ((ok__law_pick (gd := gd) T B).mono (by decide)) hr hgd LamX.takes0 (by rfl) T.g__law_pick T.F__law_pick.kp (b__law_pick T) (da_cons (de_var 1) (da_cons (de_sto (de_var 3)) (da_nil)))))) (de_lc (own := [("turn", 7)]) rfl nd (di_range1 (by rfl) T.n_range (da_cons (de_int) (da_nil))) (blkOk_by (by rfl)) (fun _ _ _ _ _ => dg_name nd rfl (by first | exact Or.inl rfl | exact Or.inr rfl)) (fun _ _ _ _ _ => dts_nil) (fun _ _ _ _ _ => de_sto (de_call ((ok__law_pick (gd := gd) T B).mono (by decide)) hr hgd LamX.takes0 (by rfl) T.g__law_pick T.F__law_pick.kp (b__law_pick T) (da_cons (de_var 1) (da_cons (de_sto (de_var 4)) (da_nil)))))))) (dg_name nd rfl (by first | exact Or.inl rfl | exact Or.inr rfl)) (dss_cons (ds_par (i := 10) (j := 13) rfl nd rfl rfl (by decide) rfl rfl (de_stb (de_call ((ok__law_is_flat (gd := gd) T B).mono (by decide)) hr hgd tk (by rfl) T.g__law_is_flat T.F__law_is_flat.kp (b__law_is_flat T) (da_cons (de_sto (de_var 9)) (da_nil)))) (de_stb (de_call ((ok__law_facing (gd := gd) T B).mono (by decide)) hr hgd tk (by rfl) T.g__law_facing T.F__law_facing.kp (b__law_facing T) (da_cons (de_sto (de_var 9)) (da_nil)))) rfl) (dss_cons (ds_if (dt_not (dt_val (de_call ((ok__law_same (gd := gd) T B).mono (by decide)) hr hgd tk (by rfl) T.g__law_same T.F__law_same.kp (b__law_same T) (da_cons (de_sto (de_lst (da_cons (de_sto (de_call ((ok_is_fold (gd := gd) T B).mono (by decide)) hr hgd tk (by rfl) T.g_is_fold T.F_is_fold.kp (b_is_fold T) (da_cons (de_sto (de_var 9)) (da_nil)))) (da_cons (de_sto (de_callK0 (ks := ["thing"]) (π := [0]) ((ok_is_fold (gd := gd) T B).mono (by decide)) hr hgd tk (by rfl) T.g_is_fold T.F_is_fold.kp (kb_is_fold_0_thing T) (dk_cons (de_sto (de_var 9)) (dk_nil)))) (da_cons (de_sto (de_call ((ok_facing (gd := gd) T B).mono (by decide)) hr hgd tk (by rfl) T.g_facing T.F_facing.kp (b_facing T) (da_cons (de_sto (de_var 9)) (da_nil)))) (da_cons (de_sto (de_callK0 (ks := ["layers"]) (π := [0]) ((ok_facing (gd := gd) T B).mono (by decide)) hr hgd tk (by rfl) T.g_facing T.F_facing.kp (kb_facing_0_layers T) (dk_cons (de_sto (de_var 9)) (dk_nil)))) (da_nil))))))) (da_cons (de_sto (de_lst (da_cons (de_sto (de_var 10)) (da_cons (de_sto (de_var 10)) (da_cons (de_sto (de_var 13)) (da_cons (de_sto (de_var 13)) (da_nil))))))) (da_nil)))))) (dss_one (ds_ret (de_bl))) (dss_nil)) (dss_cons (ds_set (i := 12) nd rfl (by first | exact Or.inl rfl | exact Or.inr rfl) (de_stb (de_call ((ok__law_odd (gd := gd) T B).mono (by decide)) hr hgd tk (by rfl) T.g__law_odd T.F__law_odd.kp (b__law_odd T) (da_cons (de_var 1) (da_cons (de_sto (de_var 9)) (da_nil)))))) (dss_cons (ds_set (i := 10) nd rfl (by first | exact Or.inl rfl | exact Or.inr rfl) (de_stb (de_and (de_call ((ok__law_is_layers (gd := gd) T B).mono (by decide)) hr hgd tk (by rfl) T.g__law_is_layers T.F__law_is_layers.kp (b__law_is_layers T) (da_cons (de_sto (de_var 12)) (da_nil))) (de_one (de_call ((ok__law_is_flat (gd := gd) T B).mono (by decide)) hr hgd tk (by rfl) T.g__law_is_flat T.F__law_is_flat.kp (b__law_is_flat T) (da_cons (de_sto (de_var 12)) (da_nil))))))) (dss_cons (ds_if (dt_not (dt_val (de_call ((ok__law_same (gd := gd) T B).mono (by decide)) hr hgd tk (by rfl) T.g__law_same T.F__law_same.kp (b__law_same T) (da_cons (de_sto (de_lst (da_cons (de_sto (de_call ((ok_is_fold (gd := gd) T B).mono (by decide)) hr hgd tk (by rfl) T.g_is_fold T.F_is_fold.kp (b_is_fold T) (da_cons (de_sto (de_var 12)) (da_nil)))) (da_cons (de_sto (de_callK0 (ks := ["thing"]) (π := [0]) ((ok_is_fold (gd := gd) T B).mono (by decide)) hr hgd tk (by rfl) T.g_is_fold T.F_is_fold.kp (kb_is_fold_0_thing T) (dk_cons (de_sto (de_var 12)) (dk_nil)))) (da_nil))))) (da_cons (de_sto (de_lst (da_cons (de_sto (de_var 10)) (da_cons (de_sto (de_var 10)) (da_nil))))) (da_nil)))))) (dss_one (ds_ret (de_bl))) (dss_nil)) (dss_cons (ds_set (i := 6) nd rfl (by first | exact Or.inl rfl | exact Or.inr rfl) (de_stb (de_heard (Ng := ["call", "e"]) (by rfl) T.g__law_heard T.F__law_heard.kp T.F__law_heard (b__law_heard T) sc__law_heard rfl (fun cdv hcd => gives_T (i := 1) (xm__law_heard T) (by decide) rfl (by decide) rfl (fun s H => hd__law_heard T rfl)) B.t_law (hcode.symm.trans T.o_law) T.ti_law T.tu_law hr (LamX.lamS_by (by rfl)) rfl (fun _ _ _ _ _ => rfl) (fun A outer s H E' f' c' hr => de_sto (de_call ((ok_facing (gd := false) T B).mono (by decide)) hr (fun h => Bool.noConfusion h) lam_takes (by rfl) T.g_facing T.F_facing.kp (b_facing T) (da_cons (de_sto (de_var 12)) (da_nil))))))) (dss_one (ds_if (dt_not (dt_val (de_call ((ok__law_same (gd := gd) T B).mono (by decide)) hr hgd tk (by rfl) T.g__law_same T.F__law_same.kp (b__law_same T) (da_cons (de_sto (de_var 6)) (da_cons (de_sto (de_if (dt_val (de_call ((ok__law_is_layers (gd := gd) T B).mono (by decide)) hr hgd tk (by rfl) T.g__law_is_layers T.F__law_is_layers.kp (b__law_is_layers T) (da_cons (de_sto (de_var 12)) (da_nil)))) (de_tup (da_cons (de_str) (da_cons (de_sto (de_call ((ok__law_facing (gd := gd) T B).mono (by decide)) hr hgd tk (by rfl) T.g__law_facing T.F__law_facing.kp (b__law_facing T) (da_cons (de_sto (de_var 12)) (da_nil)))) (da_nil)))) (de_tup (da_cons (de_str) (da_cons (de_sto (de_var 12)) (da_cons (de_bl) (da_nil))))))) (da_nil)))))) (dss_one (ds_ret (de_bl))) (dss_nil)))))))))) (dss_one (ds_ret (de_bl))))))))))))))
end
end K39

set_option Elab.async false
set_option linter.all false
set_option maxRecDepth 100000
set_option maxHeartbeats 4000000
namespace K39
open PySem PySem.Spec PyProof.Rows L2 Dn
abbrev dkOf (cs : List Int) (m t : Int) : Sl := .le (.deck dks cs m t)
theorem fmod_lt (a : Int) {n : Int} (h : 0 < n) : 0 ≤ a.fmod n ∧ a.fmod n < n := by
  rw [Int.fmod_eq_emod_of_nonneg a (by omega)]
  exact ⟨Int.emod_nonneg _ (by omega), Int.emod_lt_of_pos _ h⟩
def n1 (c t : Int) : Int := ((c.fmod 2147483629 + 60811 * t * t + 23) * 40692).fmod 2147483647
def n2 (c t : Int) : Int := (n1 c t * n1 c t + 39373 * t + 37).fmod 2147483587
def rN (c t many : Int) : Int := (((n2 c t * 48271).fmod 2147483563).fdiv 64).fmod many
def d_tail : Ds := (dSeq (dSet 2 (dBin gModI (dCallB gInt (dCons (dBin gMulI (dBin gAdd (dBin gAdd (dBin gModI (dCallB gInt (dCons (dVar 4) (dNil))) (dC (.int 2147483629))) (dBin gMulI (dBin gMulI (dC (.int 60811)) (dVar 3)) (dVar 3))) (dC (.int 23))) (dC (.int 40692))) (dNil))) (dC (.int 2147483647)))) (dSeq (dSet 2 (dBin gModI (dCallB gInt (dCons (dBin gAdd (dBin gAdd (dBin gMulI (dVar 2) (dVar 2)) (dBin gMulI (dC (.int 39373)) (dVar 3))) (dC (.int 37))) (dNil))) (dC (.int 2147483587)))) (dRet (dBin gModI (dCallB gInt (dCons (dBin gFdivI (dBin gModI (dCallB gInt (dCons (dBin gMulI (dVar 2) (dC (.int 48271))) (dNil))) (dC (.int 2147483563))) (dC (.int 64))) (dNil))) (dVar 1)))))
theorem tail_ok (s0 s2 : Sl) (c t many : Int) (hm : many ≠ 0) (h1 : -18446744073709551616 < t) (h2 : t < 18446744073709551616) : ∃ x, d_tail [s0, .d (.int many), s2, .d (.int t), .d (.int c)] = .ret (.d (.int (rN c t many))) [s0, .d (.int many), x, .d (.int t), .d (.int c)] := by
  have c4 : ∀ x : Int, -18446744073709551616 < x.fmod 2147483647 := fun x => by have := fmod_lt x (n := 2147483647) (by decide); omega
  have c5 : ∀ x : Int, x.fmod 2147483647 < 18446744073709551616 := fun x => by have := fmod_lt x (n := 2147483647) (by decide); omega
  refine ⟨.d (.int (n2 c t)), ?_⟩
  have e1 : ∀ (x y : Int) (e : List Sl), opt (gMulI (.int x) (.int y)) e = if (-18446744073709551616 < x ∧ x < 18446744073709551616) ∨ (-18446744073709551616 < y ∧ y < 18446744073709551616) then .ok (.d (.int (x * y))) e else .bad := fun x y e => by
    unfold gMulI bOk; dsimp only
    by_cases h : (-18446744073709551616 < x ∧ x < 18446744073709551616) ∨ (-18446744073709551616 < y ∧ y < 18446744073709551616)
    · rw [if_pos h, if_pos (by simpa using h)]; rfl
    · rw [if_neg h, if_neg (by simpa using h)]; rfl
  have e2 : ∀ (x y : Int) (e : List Sl), opt (gModI (.int x) (.int y)) e = if y ≠ 0 then .ok (.d (.int (x.fmod y))) e else .bad := fun x y e => by unfold gModI bOk; dsimp only; by_cases h : y = 0 <;> simp [h, opt]
  have e3 : ∀ (x y : Int) (e : List Sl), opt (gAdd (.int x) (.int y)) e = .ok (.d (.int (x + y))) e := fun x y e => rfl
  have e4 : ∀ (x : Int) (e : List Sl), opt (gInt [.int x]) e = .ok (.d (.int x)) e := fun x e => rfl
  have e5 : ∀ (x : Int) (e : List Sl), opt (gFdivI (.int x) (.int 64)) e = .ok (.d (.int (x.fdiv 64))) e := fun x e => rfl
  simp [d_tail, dSeq, dBin, dC, sBind, sOf, Res.bind, dSet, dCallB, dCons, dNil, dVar, Rv.val, slot?, vals?, dRet, e1, e2, e3, e4, e5, hm, h1, h2, c4, c5, rN, n2, n1]
theorem draw_def : d__law_draw = dSeq (dPar2 3 4 (dStb (dBin gAdd (dDkI dks 0 true) (dC (.int 1)))) (dStb (dDkI dks 0 false))) (dSeq (dDkSet dks 0 true (dVar 3)) (dSeq (dIfS (dDkNe dks 0) (dSeq (dSet 4 (dStb (dDkPop dks 0))) (dSeq (dIfS (dBin gGeI (dVar 4) (dBin gPowI (dC (.int 10)) (dC (.int 18)))) (dSeq (dDrop (dDkApp dks 0 (dBin gFdivI (dVar 4) (dCallB gMax2 (dCons (dC (.int 2)) (dCons (dVar 1) (dNil))))))) (dRet (dBin gModI (dCallB gInt (dCons (dVar 4) (dNil))) (dVar 1)))) (dPass)) (dSet 4 (dStb (dBin gAdd (dVar 4) (dDkI dks 0 false)))))) (dPass)) d_tail)) := rfl
theorem ok_dks : okK dks = true := by decide
theorem draw_nil (m t many : Int) (hm : many ≠ 0) (h1 : 0 ≤ t) (h2 : t < 1152921504606846976) : F__law_draw [dkOf [] m t, .d (.int many)] = .ok (.d (.int (rN m (t + 1) many))) [dkOf [] m (t + 1), .d (.int many)] := by
  have e3 : ∀ (x y : Int) (e : List Sl), opt (gAdd (.int x) (.int y)) e = .ok (.d (.int (x + y))) e := fun x y e => rfl
  obtain ⟨x, q⟩ := tail_ok (dkOf [] m (t + 1)) .un m (t + 1) many hm (by omega) (by omega)
  unfold F__law_draw runF
  rw [draw_def]
  simp [dSeq, dPar2, dStb, stb, dBin, dDkI, dC, deckAt, owAt, sBind, sOf, Res.bind, dDkSet, dDkNe, dIfS, dPass, dSet, dVar, setOw, Rv.val, slot?, ok_dks, e3, q, finF, outs?, List.replicate]
theorem draw_small (cs : List Int) (c m t many : Int) (hc : c < 1000000000000000000) (hm : many ≠ 0) (h1 : 0 ≤ t) (h2 : t < 1152921504606846976) : F__law_draw [dkOf (cs ++ [c]) m t, .d (.int many)] = .ok (.d (.int (rN (c + m) (t + 1) many))) [dkOf cs m (t + 1), .d (.int many)] := by
  have e3 : ∀ (x y : Int) (e : List Sl), opt (gAdd (.int x) (.int y)) e = .ok (.d (.int (x + y))) e := fun x y e => rfl
  have e6 : ∀ e : List Sl, opt (gPowI (.int 10) (.int 18)) e = .ok (.d (.int 1000000000000000000)) e := fun e => rfl
  have e7 : ∀ (x y : Int) (e : List Sl), opt (gGeI (.int x) (.int y)) e = .ok (.d (.bool (decide (y ≤ x)))) e := fun x y e => rfl
  have hc' : decide ((1000000000000000000 : Int) ≤ c) = false := by simp; omega
  obtain ⟨x, q⟩ := tail_ok (dkOf cs m (t + 1)) .un (c + m) (t + 1) many hm (by omega) (by omega)
  have hE : (!(cs ++ [c]).isEmpty) = true := by cases cs <;> rfl
  unfold F__law_draw runF
  rw [draw_def]
  simp [dSeq, dPar2, dStb, stb, dBin, dDkI, dC, deckAt, owAt, sBind, sOf, Res.bind, dDkSet, dDkNe, dDkPop, dIfS, dPass, dSet, dVar, setOw, Rv.val, slot?, ok_dks, hE, e3, e6, e7, hc', q, finF, outs?, List.replicate]
theorem draw_big (cs : List Int) (c m t many : Int) (hc : 1000000000000000000 ≤ c) (hm : 0 < many) (hb : many < 1073741824) (hl : cs.length < lim) : F__law_draw [dkOf (cs ++ [c]) m t, .d (.int many)] = .ok (.d (.int (c.fmod many))) [dkOf (cs ++ [c.fdiv (if many > 2 then many else 2)]) m (t + 1), .d (.int many)] := by
  have e2 : ∀ (x y : Int) (e : List Sl), opt (gModI (.int x) (.int y)) e = if y ≠ 0 then .ok (.d (.int (x.fmod y))) e else .bad := fun x y e => by unfold gModI bOk; dsimp only; by_cases h : y = 0 <;> simp [h, opt]
  have e3 : ∀ (x y : Int) (e : List Sl), opt (gAdd (.int x) (.int y)) e = .ok (.d (.int (x + y))) e := fun x y e => rfl
  have e4 : ∀ (x : Int) (e : List Sl), opt (gInt [.int x]) e = .ok (.d (.int x)) e := fun x e => rfl
  have e6 : ∀ e : List Sl, opt (gPowI (.int 10) (.int 18)) e = .ok (.d (.int 1000000000000000000)) e := fun e => rfl
  have e7 : ∀ (x y : Int) (e : List Sl), opt (gGeI (.int x) (.int y)) e = .ok (.d (.bool (decide (y ≤ x)))) e := fun x y e => rfl
  have e8 : ∀ (x y : Int) (e : List Sl), opt (gMax2 [.int x, .int y]) e = .ok (.d (.int (if y > x then y else x))) e := fun x y e => rfl
  have e9 : ∀ (x y : Int) (e : List Sl), 0 < y → y < 1073741824 → opt (gFdivI (.int x) (.int y)) e = .ok (.d (.int (x.fdiv y))) e := fun x y e p q => by
    unfold gFdivI bOk; dsimp only
    rw [if_pos (by simp; omega)]; rfl
  have hc' : decide ((1000000000000000000 : Int) ≤ c) = true := by simp; omega
  have hm' : many ≠ 0 := by omega
  have g1 : 0 < (if many > 2 then many else 2) := by split <;> omega
  have g2 : (if many > 2 then many else 2) < 1073741824 := by split <;> omega
  have hE : (!(cs ++ [c]).isEmpty) = true := by cases cs <;> rfl
  unfold F__law_draw runF
  rw [draw_def]
  simp only [gt_iff_lt] at g1 g2
  simp [dSeq, dPar2, dStb, stb, dBin, dDkI, dC, deckAt, owAt, sBind, sOf, Res.bind, dDkSet, dDkNe, dDkPop, dDkApp, roE, dDrop, dRet, dCallB, dCons, dNil, vals?, dIfS, dPass, dSet, dVar, setOw, Rv.val, slot?, ok_dks, hE, e2, e3, e4, e6, e7, e8, e9 _ _ _ g1 g2, hc', hm', hl, finF, outs?, List.replicate]
def DkOk (b : Int) (w : Ow) : Prop := ∃ cs m t, w = .deck dks cs m t ∧ cs.length ≤ 63 ∧ 0 ≤ t ∧ t ≤ b
theorem DkOk.le {b b' : Int} {w : Ow} (h : DkOk b w) (l : b ≤ b') : DkOk b' w := by
  obtain ⟨cs, m, t, e, h1, h2, h3⟩ := h
  exact ⟨cs, m, t, e, h1, h2, by omega⟩
theorem draw_ok {b : Int} {w : Ow} {many : Int} (h : DkOk b w) (hb : b < 1000000) (hm : 0 < many) (hm2 : many < 1000000) : ∃ (r : Nat) (w' : Ow), F__law_draw [.le w, .d (.int many)] = .ok (.d (.int r)) [.le w', .d (.int many)] ∧ (r : Int) < many ∧ DkOk (b + 1) w' := by
  obtain ⟨cs, m, t, rfl, h1, h2, h3⟩ := h
  have hm' : many ≠ 0 := by omega
  have key : ∀ r : Int, 0 ≤ r ∧ r < many → ∃ n : Nat, r = n ∧ (n : Int) < many := fun r hr => ⟨r.toNat, by omega, by omega⟩
  rcases List.eq_nil_or_concat cs with rfl | ⟨cs0, c, rfl⟩
  · obtain ⟨n, e, l⟩ := key (rN m (t + 1) many) (fmod_lt _ hm)
    exact ⟨n, _, by rw [← e]; exact draw_nil m t many hm' h2 (by omega), l, [], m, t + 1, rfl, by simp, by omega, by omega⟩
  · rw [List.concat_eq_append] at h1 ⊢
    simp only [List.length_append, List.length_cons, List.length_nil] at h1
    by_cases hc : c < 1000000000000000000
    · obtain ⟨n, e, l⟩ := key (rN (c + m) (t + 1) many) (fmod_lt _ hm)
      exact ⟨n, _, by rw [← e]; exact draw_small cs0 c m t many hc hm' h2 (by omega), l, cs0, m, t + 1, rfl, by omega, by omega, by omega⟩
    · obtain ⟨n, e, l⟩ := key (c.fmod many) (fmod_lt _ hm)
      exact ⟨n, _, by rw [← e]; exact draw_big cs0 c m t many (by omega) hm (by omega) (by unfold lim; omega), l, cs0 ++ [c.fdiv (if many > 2 then many else 2)], m, t + 1, rfl, by simp; omega, by omega, by omega⟩
theorem pick_ok {b : Int} {w : Ow} {xs : List PyData} (h : DkOk b w) (hb : b < 1000000) (h0 : xs ≠ []) (h1 : xs.length < 1000000) : ∃ x ∈ xs, ∃ w', F__law_pick [.le w, .d (.list xs)] = .ok (.d x) [.le w', .d (.list xs)] ∧ DkOk (b + 1) w' := by
  have hp : 0 < xs.length := List.length_pos_iff.mpr h0
  obtain ⟨r, w', e, l, q⟩ := draw_ok (many := xs.length) h hb (by omega) (by omega)
  have l' : r < xs.length := by omega
  refine ⟨xs[r], List.getElem_mem l', w', ?_, q⟩
  have ei : atI xs (r : Int) = some xs[r] := by
    unfold atI ixN
    simp [l']
  unfold F__law_pick runF d__law_pick
  simp [dBin, dVar, dCall, dCons, dNil, dSto, dCallB, vals?, Res.bind, Rv.val, gLen, opt, callF, argsS, argS, e, backS, setOw, sto, gIx, ei, dRet, sOf, finF, outs?]
def deckBody : Ds := dSet 4 (dBin gModI (dCallB gInt (dCons (dBin gAdd (dBin gAdd (dBin gMulI (dVar 4) (dC (.int 48271))) (dBin gModI (dCallB gInt (dCons (dVar 2) (dNil))) (dC (.int 2147483587)))) (dC (.int 61))) (dNil))) (dC (.int 2147483629)))
theorem deck_loop (a b d : Sl) : ∀ (ns : List Int) (m : Int) (c : Sl), ∃ (c' : Sl) (m' : Int), forD (pName 2) deckBody (ns.map .int) [a, b, c, d, .d (.int m)] = .nx [a, b, c', d, .d (.int m')]
  | [], m, c => ⟨c, m, rfl⟩
  | n :: ns, m, c => by
    obtain ⟨c', m', h⟩ := deck_loop a b d ns ((m * 48271 + n.fmod 2147483587 + 61).fmod 2147483629) (.d (.int n))
    refine ⟨c', m', ?_⟩
    rw [← h, List.map_cons]
    have e1 : ∀ (x : Int) (e : List Sl), opt (gMulI (.int x) (.int 48271)) e = .ok (.d (.int (x * 48271))) e := fun x e => by
      unfold gMulI bOk; dsimp only
      rw [if_pos (by simp)]; rfl
    have e2 : ∀ (x : Int) (e : List Sl), opt (gModI (.int x) (.int 2147483587)) e = .ok (.d (.int (x.fmod 2147483587))) e := fun x e => rfl
    have e2' : ∀ (x : Int) (e : List Sl), opt (gModI (.int x) (.int 2147483629)) e = .ok (.d (.int (x.fmod 2147483629))) e := fun x e => rfl
    have e3 : ∀ (x y : Int) (e : List Sl), opt (gAdd (.int x) (.int y)) e = .ok (.d (.int (x + y))) e := fun x y e => rfl
    have e4 : ∀ (x : Int) (e : List Sl), opt (gInt [.int x]) e = .ok (.d (.int x)) e := fun x e => rfl
    have eb : deckBody [a, b, .d (.int n), d, .d (.int m)] = .nx [a, b, .d (.int n), d, .d (.int ((m * 48271 + n.fmod 2147483587 + 61).fmod 2147483629))] := by
      simp [deckBody, dSet, dBin, dC, sOf, Res.bind, dCallB, dCons, dNil, dVar, Rv.val, slot?, vals?, e1, e2, e2', e3, e4]
    show (match some [a, b, Sl.d (.int n), d, Sl.d (.int m)] with
      | none => SRes.bad
      | some e => match deckBody e with
        | .nx e1 => forD (pName 2) deckBody (ns.map .int) e1
        | .ct e1 => forD (pName 2) deckBody (ns.map .int) e1
        | .brk e1 => .nx e1
        | .ret r e1 => .ret r e1
        | .exc c x e1 => .exc c x e1
        | .bad => .bad) = _
    dsimp only
    rw [eb]
theorem deck_def : d__law_deck = dSeq (dPar2 3 4 (dStb (dCallB gLst (dCons (dScrCut 0 (oNo) (oSome (dC (.int 63)))) (dNil)))) (dStb (dBin gAdd (dC (.int 21492000)) (dVar 1)))) (dSeq (dFor (iSeq (dSto (dVar 3))) (pName 2) deckBody) (dRet (dDkNew dks (dRevL (dVar 3)) (dVar 4) (dC (.int 0))))) := rfl
theorem ints_map : ∀ ns : List Int, ints? (ns.map PyData.int) = some ns
  | [] => rfl
  | n :: ns => by simp [ints?, ints_map ns]
theorem deck_ok (ns : List Int) (hl : ns.length ≤ 63) : ∃ w s, F__law_deck [.scr ns, .d (.int 39)] = .ok (.ow w) [.scr ns, s] ∧ DkOk 0 w := by
  have hc : Dn.cutD (ns.map PyData.int) none (some 63) = ns.map .int := by
    have a1 : HT.sIx (ns.map PyData.int).length 0 none = 0 := rfl
    have a2 : HT.sIx (ns.map PyData.int).length (ns.map PyData.int).length (some 63) = min 63 (ns.map PyData.int).length := HT.sIx_nat _ _ 63
    unfold Dn.cutD
    rw [a1, a2]
    simp only [List.drop_zero, Nat.sub_zero]
    exact List.take_of_length_le (by simp; omega)
  obtain ⟨c', m', h⟩ := deck_loop (.scr ns) (.d (.int 39)) (.d (.list (ns.map .int))) ns 21492039 .un
  have e3 : ∀ (x y : Int) (e : List Sl), opt (gAdd (.int x) (.int y)) e = .ok (.d (.int (x + y))) e := fun x y e => rfl
  have hk := ok_dks
  have e5 : ∀ (xs : List PyData) (e : List Sl), opt (Dn.gLst [.list xs]) e = .ok (.ow (.lst xs)) e := fun xs e => rfl
  refine ⟨.deck dks ns.reverse m' 0, .d (.int 39), ?_, ns.reverse, m', 0, rfl, by simpa using hl, by omega, by omega⟩
  unfold F__law_deck runF
  rw [deck_def]
  simp [dSeq, dPar2, dStb, stb, dBin, dC, dScrCut, oNo, oSome, hc, dCallB, dCons, dNil, vals?, e5, Res.bind, Rv.val, sOf, sBind, slot?, dVar, e3, List.replicate, dFor, iSeq, dSto, sto, h, dRet, dDkNew, dRevL, ← List.map_reverse, ints_map, hk, finF, outs?]
end K39

set_option Elab.async false
set_option linter.all false
set_option maxRecDepth 100000
set_option maxHeartbeats 4000000
namespace K39
open PySem PySem.Spec PyProof.Rows L2 Dn
def longer (many : Nat) (rows : List (List Int)) : List (List Int) := rows.flatMap fun row => ((List.range many).filter fun h : Nat => !row.contains (h : Int)).map fun h : Nat => row ++ [(h : Int)]
def rowsN (many : Nat) : Nat → List (List Int)
  | 0 => [[]]
  | n + 1 => longer many (rowsN many n)
def ords (many : Nat) : List (List Int) := rowsN many many
def tupI (r : List Int) : PyData := .tuple (r.map .int)
set_option maxHeartbeats 0
theorem orders_3 : F__law_orders [.d (.int 3)] = .ok (.d (.list ((ords 3).map tupI))) [.d (.int 3)] := by kernel_rfl
theorem orders_5 : F__law_orders [.d (.int 5)] = .ok (.d (.list ((ords 5).map tupI))) [.d (.int 5)] := by kernel_rfl
end K39

set_option Elab.async false
set_option linter.all false
set_option maxRecDepth 100000
set_option maxHeartbeats 0
namespace K39
open PySem PySem.Spec PyProof.Rows L2 Dn
def crossI (l : List Int) (i j : Nat) : Bool :=
  let a := l.getD i 0
  let b := l.getD (i + 1) 0
  let w := fun p : Nat => decide (min a b < l.getD p 0) && decide (l.getD p 0 < max a b)
  w j != w (j + 1)
def flatI (l : List Int) : Bool := (List.range (l.length - 1)).all fun j => (List.range j).all fun i => if (j - i) % 2 = 0 then !crossI l i j else true
def okB : FRes → Option Bool
  | .ok (.d (.bool b)) _ => some b
  | _ => none
theorem flat_5 : ((ords 5).all fun l => okB (F__law_is_flat [.d (tupI l)]) == some (flatI l)) = true := by kernel_rfl
theorem cross_5 : ((ords 5).all fun l => okB (F_has_crossing [.d (tupI l)]) == some (!flatI l)) = true := by kernel_rfl
end K39

set_option Elab.async false
set_option linter.all false
set_option maxRecDepth 100000
set_option maxHeartbeats 4000000
namespace Dn
open PySem PySem.Spec PyProof.Rows L2
/-! ### comprehensions and loops, told plainly -/
theorem lc_pure {vs : List Nat} {p : Put} {t el : De} {env : List Sl} (b : PyData → Bool) (y : PyData → PyData) (e : PyData → List Sl) : ∀ (xs acc : List PyData), (∀ x ∈ xs, p x env = some (e x) ∧ t (e x) = .ok (.d (.bool (b x))) (e x) ∧ (b x = true → el (e x) = .ok (.d (y x)) (e x)) ∧ wipeE (e x) vs = env) → acc.length + xs.length ≤ lim → lcD vs p t el xs acc env = .ok (acc ++ (xs.filter b).map y) env
  | [], acc, _, _ => by simp [lcD]
  | x :: xs, acc, h, hl => by
    obtain ⟨h1, h2, h3, h4⟩ := h x (by simp)
    have ih := fun acc hl => lc_pure (vs := vs) (p := p) (t := t) (el := el) (env := env) b y e xs acc (fun z hz => h z (by simp [hz])) hl
    rw [List.length_cons] at hl
    unfold lcD
    rw [h1]
    dsimp only
    rw [h2]
    cases hb : b x with
    | true =>
      show (Res.bind (el (e x)) _) = _
      rw [h3 hb]
      show (if acc.length < lim then _ else _) = _
      rw [if_pos (by omega), h4, ih _ (by simp; omega)]
      simp [hb]
    | false =>
      show lcD vs p t el xs acc (wipeE (e x) vs) = _
      rw [h4, ih _ (by omega)]
      simp [hb]
theorem dLc_pure {fi : Di} {vs : List Nat} {p : Put} {t el : De} {env : List Sl} {xs : List PyData} (b : PyData → Bool) (y : PyData → PyData) (e : PyData → List Sl) (hi : fi env = .ok xs env) (hn : noOw env vs = true) (hr : restE vs env (wipeE env vs) = env)
    (h : ∀ x ∈ xs, p x (wipeE env vs) = some (e x) ∧ t (e x) = .ok (.d (.bool (b x))) (e x) ∧ (b x = true → el (e x) = .ok (.d (y x)) (e x)) ∧ wipeE (e x) vs = wipeE env vs) (hl : xs.length ≤ lim) :
    dLc fi vs p t el env = .ok (.ow (.lst ((xs.filter b).map y))) env := by
  unfold dLc
  rw [hi]
  show (if noOw env vs = true then _ else _) = _
  rw [if_pos hn, lc_pure b y e xs [] h (by simpa using hl)]
  show Res.ok _ (restE vs env (wipeE env vs)) = _
  rw [hr]
  simp
inductive All2 {α β : Type} (Q : α → β → Prop) : List α → List β → Prop
  | nil : All2 Q [] []
  | cons {x : α} {y : β} {xs : List α} {ys : List β} (h : Q x y) (t : All2 Q xs ys) : All2 Q (x :: xs) (y :: ys)
theorem lc_inv {vs : List Nat} {p : Put} {t el : De} (Iv : Nat → List Sl → Prop) (Q : PyData → PyData → Prop) : ∀ (xs acc : List PyData) (k : Nat) (env : List Sl), Iv k env → (∀ x ∈ xs, ∀ k' env, k' < k + xs.length → Iv k' env → ∃ e e1 y, p x env = some e ∧ t e = .ok (.d (.bool true)) e ∧ el e = .ok (.d y) e1 ∧ Q x y ∧ Iv (k' + 1) (wipeE e1 vs)) → acc.length + xs.length ≤ lim → ∃ ys env', lcD vs p t el xs acc env = .ok (acc ++ ys) env' ∧ All2 Q xs ys ∧ Iv (k + xs.length) env'
  | [], acc, k, env, h0, _, _ => ⟨[], env, by simp [lcD], .nil, h0⟩
  | x :: xs, acc, k, env, h0, h, hl => by
    rw [List.length_cons] at hl
    obtain ⟨e, e1, y, h1, h2, h3, h4, h5⟩ := h x (by simp) k env (by simp) h0
    obtain ⟨ys, env', h6, h7, h8⟩ := lc_inv (vs := vs) (p := p) (t := t) (el := el) Iv Q xs (acc ++ [y]) (k + 1) _ h5 (fun z hz k' ev hk => h z (by simp [hz]) k' ev (by simp; omega)) (by simp; omega)
    refine ⟨y :: ys, env', ?_, .cons h4 h7, by rw [List.length_cons]; rwa [show k + (xs.length + 1) = k + 1 + xs.length by omega]⟩
    unfold lcD
    rw [h1]
    dsimp only
    rw [h2]
    show (Res.bind (el e) _) = _
    rw [h3]
    show (if acc.length < lim then _ else _) = _
    rw [if_pos (by omega), h6]
    simp
theorem dLc_inv {fi : Di} {vs : List Nat} {p : Put} {t el : De} {env : List Sl} {xs : List PyData} (Iv : Nat → List Sl → Prop) (Q : PyData → PyData → Prop) (hi : fi env = .ok xs env) (hn : noOw env vs = true) (k : Nat) (h0 : Iv k (wipeE env vs))
    (h : ∀ x ∈ xs, ∀ k' env, k' < k + xs.length → Iv k' env → ∃ e e1 y, p x env = some e ∧ t e = .ok (.d (.bool true)) e ∧ el e = .ok (.d y) e1 ∧ Q x y ∧ Iv (k' + 1) (wipeE e1 vs)) (hl : xs.length ≤ lim) :
    ∃ ys env', dLc fi vs p t el env = .ok (.ow (.lst ys)) (restE vs env env') ∧ All2 Q xs ys ∧ Iv (k + xs.length) env' := by
  obtain ⟨ys, env', h1, h2, h3⟩ := lc_inv Iv Q xs [] k _ h0 h (by simpa using hl)
  refine ⟨ys, env', ?_, h2, h3⟩
  unfold dLc
  rw [hi]
  show (if noOw env vs = true then _ else _) = _
  rw [if_pos hn, h1]
  rfl
theorem lc2_pure {vs vs1 : List Nat} {p p1 : Put} {t t1 el : De} {fi1 : Di} {env : List Sl} (g : PyData → List PyData) (e e' : PyData → List Sl) (ys : PyData → List PyData) (c : Nat) : ∀ (xs acc : List PyData), (∀ x ∈ xs, p x env = some (e x) ∧ t (e x) = .ok (.d (.bool true)) (e x) ∧ fi1 (e x) = .ok (ys x) (e x) ∧ (g x).length ≤ c ∧ (∀ acc, acc.length + c ≤ lim → lcD vs1 p1 t1 el (ys x) acc (wipeE (e x) vs1) = .ok (acc ++ g x) (e' x)) ∧ wipeE (e' x) vs = env) → acc.length + xs.length * c ≤ lim → lc2D vs vs1 p t fi1 p1 t1 el xs acc env = .ok (acc ++ xs.flatMap g) env
  | [], acc, _, _ => by simp [lc2D]
  | x :: xs, acc, h, hl => by
    obtain ⟨h1, h2, h3, h4, h5, h6⟩ := h x (by simp)
    rw [List.length_cons, Nat.succ_mul] at hl
    unfold lc2D
    rw [h1]
    dsimp only
    rw [h2]
    show (Res.bind (fi1 (e x)) _) = _
    rw [h3]
    show (match lcD vs1 p1 t1 el (ys x) acc (wipeE (e x) vs1) with | .ok acc' e3 => _ | _ => _) = _
    rw [h5 acc (by omega)]
    show lc2D vs vs1 p t fi1 p1 t1 el xs (acc ++ g x) (wipeE (e' x) vs) = _
    rw [h6, lc2_pure g e e' ys c xs _ (fun z hz => h z (by simp [hz])) (by simp; omega)]
    simp
theorem dLc2_pure {fi fi1 : Di} {vs vs1 : List Nat} {p p1 : Put} {t t1 el : De} {env : List Sl} {xs : List PyData} (g : PyData → List PyData) (e e' : PyData → List Sl) (ys : PyData → List PyData) (c : Nat) (hi : fi env = .ok xs env) (hn : noOw env vs = true) (hr : restE vs env (wipeE env vs) = env)
    (h : ∀ x ∈ xs, p x (wipeE env vs) = some (e x) ∧ t (e x) = .ok (.d (.bool true)) (e x) ∧ fi1 (e x) = .ok (ys x) (e x) ∧ (g x).length ≤ c ∧ (∀ acc, acc.length + c ≤ lim → lcD vs1 p1 t1 el (ys x) acc (wipeE (e x) vs1) = .ok (acc ++ g x) (e' x)) ∧ wipeE (e' x) vs = wipeE env vs) (hl : xs.length * c ≤ lim) :
    dLc2 fi vs vs1 p t fi1 p1 t1 el env = .ok (.ow (.lst (xs.flatMap g))) env := by
  unfold dLc2
  rw [hi]
  show (if noOw env vs = true then _ else _) = _
  rw [if_pos hn, lc2_pure g e e' ys c xs [] h (by simpa using hl)]
  show Res.ok _ (restE vs env (wipeE env vs)) = _
  rw [hr]
  simp
theorem for_pre {p : Put} {body : Ds} (Iv : List PyData → List Sl → Prop) : ∀ (xs pre : List PyData) (env : List Sl), Iv pre env → (∀ pre' x post env, pre ++ xs = pre' ++ x :: post → Iv pre' env → ∃ e e1, p x env = some e ∧ body e = .nx e1 ∧ Iv (pre' ++ [x]) e1) → ∃ env', forD p body xs env = .nx env' ∧ Iv (pre ++ xs) env'
  | [], pre, env, h0, _ => ⟨env, rfl, by simpa using h0⟩
  | x :: xs, pre, env, h0, h => by
    obtain ⟨e, e1, h1, h2, h3⟩ := h pre x xs env rfl h0
    obtain ⟨env', h4, h5⟩ := for_pre Iv xs (pre ++ [x]) e1 h3 fun pre' y post ev q => h pre' y post ev (by rw [← q]; simp)
    refine ⟨env', ?_, by simpa using h5⟩
    unfold forD
    rw [h1]
    dsimp only
    rw [h2]
    exact h4
theorem for_inv {p : Put} {body : Ds} (Iv : Nat → List Sl → Prop) (xs : List PyData) (k : Nat) (env : List Sl) (h0 : Iv k env) (h : ∀ x ∈ xs, ∀ k' env, k' < k + xs.length → Iv k' env → ∃ e e1, p x env = some e ∧ body e = .nx e1 ∧ Iv (k' + 1) e1) : ∃ env', forD p body xs env = .nx env' ∧ Iv (k + xs.length) env' := by
  obtain ⟨env', h1, h2⟩ := for_pre (p := p) (body := body) (fun pre e => Iv (k + pre.length) e) xs [] env h0 fun pre' x post ev q hI => by
    have q' : xs = pre' ++ x :: post := by simpa using q
    have hx : x ∈ xs := by rw [q']; simp
    obtain ⟨e, e1, a, b, c⟩ := h x hx (k + pre'.length) ev (by rw [q']; simp) hI
    exact ⟨e, e1, a, b, by simpa [Nat.add_assoc] using c⟩
  exact ⟨env', h1, by simpa using h2⟩
/-- one turn of a walk that changes nothing but by f -/
theorem for_fold {p : Put} {body : Ds} {α : Type} (E : α → List Sl) (f : α → PyData → α) : ∀ (xs : List PyData) (a : α), (∀ pre x post, xs = pre ++ x :: post → ∃ e, p x (E (pre.foldl f a)) = some e ∧ body e = .nx (E (f (pre.foldl f a) x))) → forD p body xs (E a) = .nx (E (xs.foldl f a))
  | [], a, _ => rfl
  | x :: xs, a, h => by
    obtain ⟨e, h1, h2⟩ := h [] x xs rfl
    have h1 : p x (E a) = some e := h1
    have h2 : body e = .nx (E (f a x)) := h2
    unfold forD
    rw [h1]
    dsimp only
    rw [h2]
    exact for_fold E f xs (f a x) fun pre y post q => h (x :: pre) y post (by rw [q]; rfl)
/-- a call of values alone -/
theorem call_d {np : Nat} {F : Fn} {fr : DeL} {env : List Sl} {as : List PyData} {r : Rv} {outs : List Sl} (h : fr env = .ok (as.map Rv.d) env) (hn : as.length = np) (hF : F (as.map Sl.d) = .ok r outs) (ho : outs.length = np) : dCall np F fr env = .ok r env := by
  have ha : ∀ as : List PyData, argsS env (as.map Rv.d) = some (as.map Sl.d, as.map fun _ => none) := fun as => by
    induction as with
    | nil => rfl
    | cons a as ih => rw [List.map_cons, argsS, ih]; rfl
  have hf : ∀ as : List PyData, (as.map fun _ => (none : Option Nat)).filterMap id = [] := fun as => by
    induction as with
    | nil => rfl
    | cons a as ih => simpa using ih
  have hb : ∀ (as : List PyData) (outs : List Sl), outs.length = as.length → backS (as.map fun _ => none) outs env = some env := fun as => by
    induction as with
    | nil => intro outs h; rw [List.length_eq_zero_iff.mp h]; rfl
    | cons a as ih =>
      intro outs h
      cases outs with
      | nil => cases h
      | cons o os => exact ih os (by simpa using h)
  unfold dCall
  rw [h]
  show callF np F (as.map Rv.d) env = _
  unfold callF
  rw [if_pos (by simpa using hn), ha]
  dsimp only
  rw [hf, if_pos List.nodup_nil, hF]
  dsimp only
  rw [hb as outs (by omega)]
theorem call_exc {np : Nat} {F : Fn} {fr : DeL} {env : List Sl} {as : List PyData} {c : Str} {x : PyData} (h : fr env = .ok (as.map Rv.d) env) (hn : as.length = np) (hF : F (as.map Sl.d) = .exc c x) : dCall np F fr env = .exc c x env := by
  have ha : ∀ as : List PyData, argsS env (as.map Rv.d) = some (as.map Sl.d, as.map fun _ => none) := fun as => by
    induction as with
    | nil => rfl
    | cons a as ih => rw [List.map_cons, argsS, ih]; rfl
  have hf : ∀ as : List PyData, (as.map fun _ => (none : Option Nat)).filterMap id = [] := fun as => by
    induction as with
    | nil => rfl
    | cons a as ih => simpa using ih
  unfold dCall
  rw [h]
  show callF np F (as.map Rv.d) env = _
  unfold callF
  rw [if_pos (by simpa using hn), ha]
  dsimp only
  rw [hf, if_pos List.nodup_nil, hF]
  rfl
/-! ### what can be compared -/
mutual
def plainD : PyData → Bool
  | .none => true
  | .bool _ => true
  | .int _ => true
  | .str _ => true
  | .tuple xs => plainL xs
  | .list xs => plainL xs
  | .dict kvs => kvs.isEmpty
def plainL : List PyData → Bool
  | [] => true
  | x :: xs => plainD x && plainL xs
end
mutual
def szD : PyData → Nat
  | .tuple xs => szL xs + 1
  | .list xs => szL xs + 1
  | _ => 1
def szL : List PyData → Nat
  | [] => 0
  | x :: xs => szD x + szL xs
end
theorem szD_pos : ∀ x : PyData, 0 < szD x := fun x => by cases x <;> simp [szD]
theorem szL_len : ∀ xs : List PyData, xs.length ≤ szL xs
  | [] => by simp [szL]
  | x :: xs => by have := szL_len xs; have := szD_pos x; simp [szL]; omega
theorem szL_app : ∀ xs ys : List PyData, szL (xs ++ ys) = szL xs + szL ys
  | [], ys => by simp [szL]
  | x :: xs, ys => by simp [szL, szL_app xs ys]; omega
theorem plainL_app : ∀ xs ys : List PyData, plainL (xs ++ ys) = (plainL xs && plainL ys)
  | [], ys => by simp [plainL]
  | x :: xs, ys => by simp [plainL, plainL_app xs ys, Bool.and_assoc]
theorem plainL_all : ∀ xs : List PyData, plainL xs = xs.all plainD
  | [] => rfl
  | x :: xs => by simp [plainL, plainL_all xs]
/-! ### small steps -/
theorem lim_ge : 1000000 ≤ lim := by unfold lim; omega
theorem sm62 (i : Int) (h : -1000000 ≤ i) (h2 : i ≤ 1000000) : small62 i = true := by
  unfold small62
  have e : ((2 : Int) ^ 62) = 4611686018427387904 := by decide
  rw [e, Bool.and_eq_true, decide_eq_true_eq, decide_eq_true_eq]
  omega
theorem sm62n (m : Nat) (h : m ≤ 1000000) : small62 (m : Int) = true := sm62 _ (by omega) (by omega)
theorem range1 {fr : DeL} {env : List Sl} {j : Int} (h : fr env = .ok [.d (.int j)] env) (hj : -1000000 ≤ j) (h2 : j ≤ 1000000) : iRange1 fr env = .ok (Dn.intsFrom 0 j.toNat) env := by
  unfold iRange1
  rw [h]
  show (if small62 j = true then _ else _) = _
  rw [if_pos (sm62 j hj h2)]
theorem range1n {fr : DeL} {env : List Sl} {m : Nat} (h : fr env = .ok [.d (.int m)] env) (h2 : m ≤ 1000000) : iRange1 fr env = .ok (Dn.intsFrom 0 m) env := range1 h (by omega) (by omega)
theorem range2 {fr : DeL} {env : List Sl} {i j : Int} (h : fr env = .ok [.d (.int i), .d (.int j)] env) (hi : -1000000 ≤ i) (hi2 : i ≤ 1000000) (hj : -1000000 ≤ j) (h2 : j ≤ 1000000) : iRange2 fr env = .ok (Dn.intsFrom i (j - i).toNat) env := by
  unfold iRange2
  rw [h]
  show (if (small62 i && small62 j) = true then _ else _) = _
  rw [if_pos (by rw [sm62 j hj h2, sm62 i hi hi2]; rfl)]
theorem rg_ok (m : Nat) (h2 : m ≤ 1000000) : rgOk 0 (m : Int) = true := by
  unfold rgOk
  rw [sm62 0 (by omega) (by omega), sm62n m h2, Bool.true_and, Bool.true_and, decide_eq_true_eq]
  have e : (2 : Nat) ^ 20 = 1048576 := by decide
  rw [e]
  omega
theorem listRg1i {fa : De} {env e1 : List Sl} {n : Int} (h : fa env = .ok (.d (.int n)) e1) (hr : rgOk 0 n = true) : dListRg1 fa env = .ok (.ow (.lst (Dn.intsFrom 0 (n - 0).toNat))) e1 := by
  unfold dListRg1
  rw [h]
  show (if rgOk 0 n = true then _ else _) = _
  rw [if_pos hr]
theorem listRg1 {fa : De} {env e1 : List Sl} {m : Nat} (h : fa env = .ok (.d (.int m)) e1) (h2 : m ≤ 1000000) : dListRg1 fa env = .ok (.ow (.lst (Dn.intsFrom 0 m))) e1 := by
  have e : ((m : Int) - 0).toNat = m := by omega
  have q := listRg1i h (rg_ok m h2)
  rw [e] at q
  exact q
theorem cons_d {fa : De} {fr : DeL} {env e1 e2 : List Sl} {x : Rv} {xs : List Rv} (h : fa env = .ok x e1) (h2 : fr e1 = .ok xs e2) : dCons fa fr env = .ok (x :: xs) e2 := by
  unfold dCons; rw [h]; simp only [Res.bind]; rw [h2]
theorem var_d {i : Nat} {env : List Sl} {x : PyData} (h : env[i]? = some (.d x)) : dVar i env = .ok (.d x) env := by
  unfold dVar; rw [h]
theorem bin_d {g : PyData → PyData → Option Rv} {fa fb : De} {env e1 e2 : List Sl} {ra rb r : Rv} {x y : PyData} (h1 : fa env = .ok ra e1) (h2 : fb e1 = .ok rb e2) (hx : ra.val e2 = some x) (hy : rb.val e2 = some y) (hg : g x y = some r) : dBin g fa fb env = .ok r e2 := by
  unfold dBin; rw [h1]; simp only [Res.bind]; rw [h2]; simp only []; rw [hx, hy]; simp only []; rw [hg]; rfl
theorem un_d {g : PyData → Option Rv} {fa : De} {env e1 : List Sl} {ra r : Rv} {x : PyData} (h1 : fa env = .ok ra e1) (hx : ra.val e1 = some x) (hg : g x = some r) : dUn g fa env = .ok r e1 := by
  unfold dUn; rw [h1]; simp only [Res.bind]; rw [hx]; simp only []; rw [hg]; rfl
theorem callB_d {g : List PyData → Option Rv} {fr : DeL} {env e1 : List Sl} {rs : List Rv} {xs : List PyData} {r : Rv} (h1 : fr env = .ok rs e1) (hx : vals? e1 rs = some xs) (hg : g xs = some r) : dCallB g fr env = .ok r e1 := by
  unfold dCallB; rw [h1]; simp only [Res.bind]; rw [hx]; simp only []; rw [hg]; rfl
theorem callB1 {g : List PyData → Option Rv} {fa : De} {env e1 : List Sl} {ra r : Rv} {x : PyData} (h1 : fa env = .ok ra e1) (hx : ra.val e1 = some x) (hg : g [x] = some r) : dCallB g (dCons fa dNil) env = .ok r e1 :=
  callB_d (cons_d h1 (show dNil e1 = .ok [] e1 from rfl)) (by simp [vals?, hx]) hg
theorem sto_d {fa : De} {env e1 : List Sl} {x : PyData} (h : fa env = .ok (.d x) e1) : dSto fa env = .ok (.d x) e1 := by
  unfold dSto; rw [h]; rfl
theorem sto_ow {fa : De} {env e1 : List Sl} {xs : List PyData} (h : fa env = .ok (.ow (.lst xs)) e1) : dSto fa env = .ok (.d (.list xs)) e1 := by
  unfold dSto; rw [h]; rfl
theorem stb_d {fa : De} {env e1 : List Sl} {x : PyData} (h : fa env = .ok (.d x) e1) : dStb fa env = .ok (.d x) e1 := by
  unfold dStb; rw [h]; rfl
theorem stb_ow {fa : De} {env e1 : List Sl} {w : Ow} (h : fa env = .ok (.ow w) e1) : dStb fa env = .ok (.ow w) e1 := by
  unfold dStb; rw [h]; rfl
theorem set_d {i : Nat} {f : De} {env e1 : List Sl} {x : PyData} (h : f env = .ok (.d x) e1) : dSet i f env = .nx (e1.set i (.d x)) := by
  unfold dSet; rw [h]; rfl
theorem set_ow {i : Nat} {f : De} {env e1 : List Sl} {w : Ow} (h : f env = .ok (.ow w) e1) : dSet i f env = .nx (e1.set i (.ow w)) := by
  unfold dSet; rw [h]; rfl
theorem seq_nx {g1 g2 : Ds} {env e1 : List Sl} (h : g1 env = .nx e1) : dSeq g1 g2 env = g2 e1 := by
  unfold dSeq; rw [h]; rfl
theorem if_t {f : De} {g1 g2 : Ds} {env e1 : List Sl} (h : f env = .ok (.d (.bool true)) e1) : dIfS f g1 g2 env = g1 e1 := by
  unfold dIfS; rw [h]; rfl
theorem if_f {f : De} {g1 g2 : Ds} {env e1 : List Sl} (h : f env = .ok (.d (.bool false)) e1) : dIfS f g1 g2 env = g2 e1 := by
  unfold dIfS; rw [h]; rfl
theorem not_d {f : De} {env e1 : List Sl} {b : Bool} (h : f env = .ok (.d (.bool b)) e1) : dNot f env = .ok (.d (.bool (!b))) e1 := by
  unfold dNot; rw [h]; rfl
theorem and_t {f g : De} {env e1 : List Sl} (h : f env = .ok (.d (.bool true)) e1) : dAnd f g env = g e1 := by
  unfold dAnd; rw [h]; rfl
theorem and_f {f g : De} {env e1 : List Sl} (h : f env = .ok (.d (.bool false)) e1) : dAnd f g env = .ok (.d (.bool false)) e1 := by
  unfold dAnd; rw [h]; rfl
theorem or_t {f g : De} {env e1 : List Sl} (h : f env = .ok (.d (.bool true)) e1) : dOr f g env = .ok (.d (.bool true)) e1 := by
  unfold dOr; rw [h]; rfl
theorem or_f {f g : De} {env e1 : List Sl} (h : f env = .ok (.d (.bool false)) e1) : dOr f g env = g e1 := by
  unfold dOr; rw [h]; rfl
theorem ifE_t {t f g : De} {env e1 : List Sl} (h : t env = .ok (.d (.bool true)) e1) : dIf t f g env = f e1 := by
  unfold dIf; rw [h]; rfl
theorem ifE_f {t f g : De} {env e1 : List Sl} (h : t env = .ok (.d (.bool false)) e1) : dIf t f g env = g e1 := by
  unfold dIf; rw [h]; rfl
theorem ret_d {f : De} {env e1 : List Sl} {r : Rv} (h : f env = .ok r e1) : dRet f env = .ret r e1 := by
  unfold dRet; rw [h]; rfl
theorem drop_d {f : De} {env e1 : List Sl} {r : Rv} (h : f env = .ok r e1) : dDrop f env = .nx e1 := by
  unfold dDrop; rw [h]; rfl
theorem for_d {fi : Di} {p : Put} {body : Ds} {env e1 : List Sl} {xs : List PyData} (h : fi env = .ok xs e1) : dFor fi p body env = forD p body xs e1 := by
  unfold dFor; rw [h]; rfl
theorem for_cons {p : Put} {body : Ds} {x : PyData} {xs : List PyData} {env e e1 : List Sl} (h : p x env = some e) (h2 : body e = .nx e1) : forD p body (x :: xs) env = forD p body xs e1 := by
  rw [forD, h]; simp only []; rw [h2]
theorem run_ret {g : Ds} {n : Nat} {as : List Sl} {r : Rv} {e : List Sl} (h : g (as ++ List.replicate (n - as.length) .un) = .ret r e) : runF g n as = finF as r e := by
  unfold runF; rw [h]
theorem run_nx {g : Ds} {n : Nat} {as : List Sl} {e : List Sl} (h : g (as ++ List.replicate (n - as.length) .un) = .nx e) : runF g n as = finF as (.d .none) e := by
  unfold runF; rw [h]
theorem run_exc {g : Ds} {n : Nat} {as : List Sl} {e : List Sl} {c : Str} {x : PyData} (h : g (as ++ List.replicate (n - as.length) .un) = .exc c x e) (hl : noLe as = true) : runF g n as = .exc c x := by
  unfold runF; rw [h]; simp only []; rw [if_pos hl]
theorem seq_ret {g1 g2 : Ds} {env e1 : List Sl} {r : Rv} (h : g1 env = .ret r e1) : dSeq g1 g2 env = .ret r e1 := by
  unfold dSeq; rw [h]; rfl
theorem seq_exc {g1 g2 : Ds} {env e1 : List Sl} {c : Str} {x : PyData} (h : g1 env = .exc c x e1) : dSeq g1 g2 env = .exc c x e1 := by
  unfold dSeq; rw [h]; rfl
theorem iseq_l {f : De} {env e1 : List Sl} {xs : List PyData} (h : f env = .ok (.d (.list xs)) e1) : iSeq f env = .ok xs e1 := by
  unfold iSeq; rw [h]; rfl
theorem iseq_t {f : De} {env e1 : List Sl} {xs : List PyData} (h : f env = .ok (.d (.tuple xs)) e1) : iSeq f env = .ok xs e1 := by
  unfold iSeq; rw [h]; rfl
theorem tup_d {fr : DeL} {env e1 : List Sl} {rs : List Rv} {xs : List PyData} (h : fr env = .ok rs e1) (hd : datas? rs = some xs) (hl : xs.length ≤ 1000000) : dTup fr env = .ok (.d (.tuple xs)) e1 := by
  unfold dTup; rw [h]; simp only [Res.bind]; rw [hd]; simp only []; rw [if_pos (Nat.le_trans hl lim_ge)]
theorem lst_d {fr : DeL} {env e1 : List Sl} {rs : List Rv} {xs : List PyData} (h : fr env = .ok rs e1) (hd : datas? rs = some xs) (hl : xs.length ≤ 1000000) : dLst fr env = .ok (.ow (.lst xs)) e1 := by
  unfold dLst; rw [h]; simp only [Res.bind]; rw [hd]; simp only []; rw [if_pos (Nat.le_trans hl lim_ge)]
end Dn

set_option Elab.async false
set_option linter.all false
set_option maxRecDepth 100000
set_option maxHeartbeats 4000000
namespace K39
open PySem PySem.Spec PyProof.Rows L2 Dn
def same_t : De := dBin gNeA (dVar 2) (dLst (dNil))
def same_r : Ds := dIfS (dUn (gIsi2 .tup .lst) (dVar 4)) (dSeq (dIfS (dOr (dBin gNeA (dUn (gIsi .tup) (dVar 3)) (dUn (gIsi .tup) (dVar 4))) (dNot (dUn (gIsi2 .tup .lst) (dVar 3)))) (dRet (dC (.bool false))) (dPass)) (dSeq (dIfS (dBin gNeA (dCallB gLen (dCons (dVar 3) (dNil))) (dCallB gLen (dCons (dVar 4) (dNil)))) (dRet (dC (.bool false))) (dPass)) (dDrop (dMeth 2 mExt (dCons (dLZip (dSto (dVar 3)) (dSto (dVar 4))) (dNil)))))) (dIfS (dOr (dBin gIsN (dVar 4) (dC .none)) (dUn (gIsi .dct) (dVar 4))) (dIfS (dIf (dBin gIsN (dVar 4) (dC .none)) (dBin gNotN (dVar 3) (dC .none)) (dOr (dNot (dUn (gIsi .dct) (dVar 3))) (dBin gNeA (dVar 3) (dVar 4)))) (dRet (dC (.bool false))) (dPass)) (dIfS (dUn (gIsi .str) (dVar 4)) (dIfS (dOr (dNot (dUn (gIsi .str) (dVar 3))) (dBin gNeA (dVar 3) (dVar 4))) (dRet (dC (.bool false))) (dPass)) (dIfS (dOr (dNot (dUn (gIsi .int) (dVar 3))) (dOr (dBin gNeA (dUn (gIsi .bool) (dVar 3)) (dUn (gIsi .bool) (dVar 4))) (dBin gNeA (dVar 3) (dVar 4)))) (dRet (dC (.bool false))) (dPass))))
def same_b : Ds := dSeq (dAsgT (pTup 2 (pCons (pName 3) (pCons (pName 4) (pNil)))) (dSto (dPop 2))) same_r
theorem d__law_same_def : d__law_same = dSeq (dSet 2 (dStb (dLst (dCons (dTup (dCons (dSto (dVar 0)) (dCons (dSto (dVar 1)) (dNil)))) (dNil))))) (dSeq (whileD same_t same_b fuel) (dRet (dC (.bool true)))) := rfl
def ord_c : De := dLc (iRange1 (dCons (dVar 0) (dNil))) [5] (pName 5) (dBin (gIn true) (dVar 5) (dVar 4)) (dSto (dBin gAdd (dVar 4) (dTup (dCons (dSto (dVar 5)) (dNil)))))
def ord_i : Ds := dDrop (dMeth 3 mExt (dCons ord_c (dNil)))
def ord_b : Ds := dSeq (dSet 3 (dStb (dLst (dNil)))) (dSeq (dFor (iSeq (dSto (dCallB gLst (dCons (dVar 1) (dNil))))) (pName 4) ord_i) (dSet 1 (dStb (dVar 3))))
theorem d__law_orders_def : d__law_orders = dSeq (dSet 1 (dStb (dLst (dCons (dTup (dNil)) (dNil))))) (dSeq (dFor (iRange1 (dCons (dVar 0) (dNil))) (pName 2) ord_b) (dRet (dVar 1))) := rfl
def row_b : Ds := dSet 1 (dLc2 (iSeq (dSto (dVar 1))) [3, 4] [4] (pName 3) (dYes) (iRange1 (dCons (dVar 0) (dNil))) (pName 4) (dBin (gIn true) (dVar 4) (dVar 3)) (dSto (dBin gAdd (dVar 3) (dTup (dCons (dSto (dVar 4)) (dNil))))))
theorem d_rows_of_heights_def : d_rows_of_heights = dSeq (dSet 1 (dStb (dLst (dCons (dTup (dNil)) (dNil))))) (dSeq (dFor (iRange1 (dCons (dVar 0) (dNil))) (pName 2) row_b) (dRet (dVar 1))) := rfl
def fo_all : De := dLc (iSeq (dSto (dVar 1))) [4, 5] (pTup 2 (pCons (pName 4) (pCons (pName 5) (pNil)))) (dYes) (dBin gGtI (dBin gIx (dVar 3) (dVar 4)) (dBin gIx (dVar 3) (dVar 5)))
def fo_b : Ds := dIfS (dAnd (dCallB gAllB (dCons fo_all (dNil))) (dNot (dCall 1 F_has_crossing (dCons (dSto (dVar 3)) (dNil))))) (dDrop (dMeth 2 mApp (dCons (dSto (dVar 3)) (dNil)))) (dPass)
theorem d_folds_of_def : d_folds_of = dSeq (dSet 2 (dStb (dLst (dNil)))) (dSeq (dFor (iSeq (dSto (dCall 1 F_rows_of_heights (dCons (dSto (dVar 0)) (dNil))))) (pName 3) fo_b) (dRet (dVar 2))) := rfl
def ia_0 : Ds := dIfS (dOr (dNot (dUn (gIsi .tup) (dVar 1))) (dBin gGtI (dCallB gLen (dCons (dVar 1) (dNil))) (dBin gMulI (dVar 0) (dVar 0)))) (dRet (dC (.bool false))) (dPass)
def ia_z : De := dLc (iZip (dSto (dVar 1)) (dSto (dSlice (dVar 1) (oSome (dC (.int 1))) (oNo)))) [3, 4] (pTup 2 (pCons (pName 3) (pCons (pName 4) (pNil)))) (dYes) (dBin gLtA (dVar 3) (dVar 4))
def ia_c : De := dLc (iSeq (dSto (dVar 2))) [5] (pName 5) (dYes) (dSto (dCall 3 F_is_whole_between (dCons (dSto (dVar 5)) (dCons (dC (.int 0)) (dCons (dBin gSubI (dVar 0) (dC (.int 1))) (dNil))))))
def ia_r : Ds := dRet (dCallB gAllB (dCons ia_z (dNil)))
def ia_b : Ds := dSeq (dIfS (dOr (dNot (dCall 2 F_is_tuple_of (dCons (dSto (dVar 2)) (dCons (dC (.int 2)) (dNil))))) (dNot (dCallB gAllB (dCons ia_c (dNil))))) (dRet (dC (.bool false))) (dPass)) (dIfS (dBin gEqA (dBin gIx (dVar 2) (dC (.int 0))) (dBin gIx (dVar 2) (dC (.int 1)))) (dRet (dC (.bool false))) (dPass))
def ia_f : Ds := dFor (iSeq (dSto (dVar 1))) (pName 2) ia_b
theorem d_is_above_def : d_is_above = dSeq ia_0 (dSeq ia_f ia_r) := rfl
def mx_t : De := dBin gNeA (dVar 2) (dLst (dNil))
def mx_b : Ds := dDrop (dMeth 3 mApp (dCons (dSto (dMeth 2 mPopAt (dCons (dCall 2 F__law_draw (dCons (dVar 0) (dCons (dSto (dCallB gLen (dCons (dVar 2) (dNil)))) (dNil)))) (dNil)))) (dNil)))
theorem d__law_mixed_def : d__law_mixed = dSeq (dPar2 2 3 (dStb (dCallB gLst (dCons (dVar 1) (dNil)))) (dStb (dLst (dNil)))) (dSeq (whileD mx_t mx_b fuel) (dRet (dVar 3))) := rfl
def ab_0 : Ds := dSet 3 (dStb (dLst (dNil)))
def ab_2 : Ds := dSet 5 (dStb (dCall 2 F__law_draw (dCons (dVar 0) (dCons (dC (.int 5)) (dNil)))))
def ab_c : De := dLc (iRange1 (dCons (dVar 1) (dNil))) [6] (pName 6) (dBin gNeA (dVar 4) (dVar 6)) (dTup (dCons (dSto (dVar 4)) (dCons (dSto (dVar 6)) (dNil))))
def ab_b : Ds := dDrop (dMeth 3 mExt (dCons ab_c (dNil)))
def ab_f : De := dLc (iSeq (dSto (dVar 3))) [4, 6] (pTup 2 (pCons (pName 4) (pCons (pName 6) (pNil)))) (dBin gGtI (dBin gIx (dVar 2) (dVar 4)) (dBin gIx (dVar 2) (dVar 6))) (dTup (dCons (dSto (dVar 4)) (dCons (dSto (dVar 6)) (dNil))))
def ab_1 : Ds := dFor (iRange1 (dCons (dVar 1) (dNil))) (pName 4) ab_b
def ab_3 : Ds := dIfS (dBin gLtA (dVar 5) (dC (.int 3))) (dSet 3 ab_f) (dPass)
def ab_5 : Ds := dRet (dCallB gTup (dCons (dCallB gSorted (dCons (dSlice (dCall 2 F__law_mixed (dCons (dVar 0) (dCons (dSto (dVar 3)) (dNil)))) (oNo) (oSome (dCall 2 F__law_pick (dCons (dVar 0) (dCons (dSto (dLst (dCons (dC (.int 0)) (dCons (dC (.int 1)) (dCons (dC (.int 2)) (dCons (dC (.int 3)) (dCons (dC (.int 6)) (dNil)))))))) (dNil)))))) (dNil))) (dNil)))
def ab_n : De := dLc (iRange1 (dCons (dBin gSubI (dVar 1) (dC (.int 1))) (dNil))) [4] (pName 4) (dYes) (dSto (dIf (dBin gEqA (dCall 2 F__law_draw (dCons (dVar 0) (dCons (dC (.int 2)) (dNil)))) (dC (.int 0))) (dTup (dCons (dSto (dVar 4)) (dCons (dSto (dBin gAdd (dVar 4) (dC (.int 1)))) (dNil)))) (dTup (dCons (dSto (dBin gAdd (dVar 4) (dC (.int 1)))) (dCons (dSto (dVar 4)) (dNil))))))
def ab_4 : Ds := dIfS (dBin gEqA (dVar 5) (dC (.int 3))) (dSeq (dSet 3 ab_n) (dRet (dCallB gTup (dCons (dCallB gSorted (dCons (dVar 3) (dNil))) (dNil))))) (dPass)
theorem d__law_above_def : d__law_above = dSeq ab_0 (dSeq ab_1 (dSeq ab_2 (dSeq ab_3 (dSeq ab_4 ab_5)))) := rfl
def rf_3 : Ds := dSet 5 (dStb (dCall 2 F__law_pick (dCons (dVar 0) (dCons (dSto (dVar 4)) (dNil)))))
def rf_4 : Ds := dSet 6 (dStb (dLst (dCons (dSto (dHeard errs [("BadPanels", hT3 "panels"), ("BadAbove", hT3 "above"), ("BadLayers", hT3 "layers")] false "told" (dSto (dCall 2 F_folds (dCons (dSto (dVar 3)) (dCons (dSto (dVar 5)) (dNil))))))) (dNil))))
def rf_5 : Ds := dDrop (dMeth 6 mApp (dCons (dSto (dHeard errs [("BadPanels", hT3 "panels"), ("BadAbove", hT3 "above"), ("BadLayers", hT3 "layers")] false "told" (dSto (dCallK 2 F_folds 0 2 [1, 0] dNil (dCons (dTup (dNil)) (dCons (dSto (dVar 3)) (dNil))))))) (dNil)))
def rf_6 : Ds := dDrop (dMeth 6 mApp (dCons (dSto (dHeard errs [("BadPanels", hT3 "panels"), ("BadAbove", hT3 "above"), ("BadLayers", hT3 "layers")] false "told" (dSto (dCallK 2 F_folds 0 2 [1, 0] dNil (dCons (dSto (dVar 5)) (dCons (dSto (dVar 1)) (dNil))))))) (dNil)))
def rf_7 : Ds := dRet (dCall 2 F__law_same (dCons (dSto (dVar 6)) (dCons (dSto (dLst (dCons (dTup (dCons (dC (.str "panels")) (dCons (dSto (dVar 3)) (dCons (dC (.bool true)) (dNil))))) (dCons (dTup (dCons (dC (.str "panels")) (dCons (dSto (dVar 3)) (dCons (dC (.bool true)) (dNil))))) (dCons (dTup (dCons (dC (.str "above")) (dCons (dSto (dVar 5)) (dCons (dC (.bool true)) (dNil))))) (dNil)))))) (dNil))))
def rf_0 : Ds := dSet 3 (dStb (dCall 2 F__law_pick (dCons (dVar 0) (dCons (dSto (dLst (dCons (dC .none) (dCons (dSto (dUn gNeg (dC (.int 1)))) (dCons (dC (.bool true)) (dCons (dC (.str "3")) (dCons (dTup (dCons (dC (.int 3)) (dNil))) (dCons (dSto (dLst (dNil))) (dCons (dC (.bool false)) (dCons (dC (.int 0)) (dCons (dC (.int 7)) (dCons (dBin gPowI (dC (.int 10)) (dC (.int 6))) (dNil))))))))))))) (dNil)))))
def rf_2 : Ds := dSet 4 (dStb (dBin gAdd (dVar 4) (dLst (dCons (dTup (dCons (dTup (dCons (dC (.int 1)) (dCons (dC (.int 0)) (dNil)))) (dCons (dTup (dCons (dC (.int 0)) (dCons (dC (.int 1)) (dNil)))) (dNil)))) (dCons (dTup (dCons (dTup (dCons (dC (.int 0)) (dCons (dC (.int 1)) (dNil)))) (dCons (dTup (dCons (dC (.int 0)) (dCons (dC (.int 1)) (dNil)))) (dNil)))) (dCons (dTup (dCons (dTup (dCons (dC (.int 0)) (dCons (dC (.bool true)) (dNil)))) (dNil))) (dCons (dTup (dCons (dTup (dCons (dC (.bool false)) (dCons (dC (.int 1)) (dNil)))) (dNil))) (dNil))))))))
def rf_1 : Ds := dSet 4 (dStb (dLst (dCons (dC .none) (dCons (dSto (dCallB gLst (dCons (dVar 2) (dNil)))) (dCons (dTup (dCons (dTup (dCons (dC (.int 0)) (dCons (dC (.int 0)) (dNil)))) (dNil))) (dCons (dTup (dCons (dTup (dCons (dC (.int 0)) (dCons (dSto (dVar 1)) (dNil)))) (dNil))) (dCons (dTup (dCons (dTup (dCons (dSto (dUn gNeg (dC (.int 1)))) (dCons (dC (.int 0)) (dNil)))) (dNil))) (dCons (dTup (dCons (dTup (dCons (dC (.int 0)) (dNil))) (dNil))) (dCons (dTup (dCons (dTup (dCons (dC (.int 0)) (dCons (dC (.int 1)) (dCons (dC (.int 2)) (dNil))))) (dNil))) (dCons (dTup (dCons (dC (.int 0)) (dCons (dC (.int 1)) (dNil)))) (dCons (dC (.str "01")) (dCons (dTup (dCons (dSto (dLst (dCons (dC (.int 0)) (dCons (dC (.int 1)) (dNil))))) (dNil))) (dCons (dTup (dCons (dTup (dCons (dC (.int 0)) (dCons (dC .none) (dNil)))) (dNil))) (dCons (dTup (dCons (dTup (dCons (dSto (dVar 1)) (dCons (dC (.int 0)) (dNil)))) (dNil))) (dNil)))))))))))))))
theorem d__law_are_refused_def : d__law_are_refused = dSeq rf_0 (dSeq rf_1 (dSeq rf_2 (dSeq rf_3 (dSeq rf_4 (dSeq rf_5 (dSeq rf_6 rf_7)))))) := rfl
def od_2 : Ds := dSet 2 (dStb (dBin gAdd (dVar 2) (dLst (dCons (dSto (dCallB gTup (dCons (dLc (iSeq (dSto (dVar 1))) [3] (pName 3) (dYes) (dSto (dIf (dBin gEqA (dVar 3) (dC (.int 1))) (dC (.bool true)) (dVar 3)))) (dNil)))) (dCons (dSto (dCallB gTup (dCons (dLc (iSeq (dSto (dVar 1))) [3] (pName 3) (dYes) (dSto (dIf (dBin gEqA (dVar 3) (dC (.int 0))) (dC (.bool false)) (dVar 3)))) (dNil)))) (dNil))))))
def od_3 : Ds := dRet (dCall 2 F__law_pick (dCons (dVar 0) (dCons (dSto (dBin gAdd (dVar 2) (dLst (dCons (dSto (dCallB gTup (dCons (dLc (iSeq (dSto (dVar 1))) [3] (pName 3) (dYes) (dSto (dCallB gStr (dCons (dVar 3) (dNil))))) (dNil)))) (dCons (dSto (dTupRg1 (dC (.int 7)))) (dCons (dSto (dCallB gTup (dCons (dBin gAdd (dLst (dCons (dC .none) (dNil))) (dCallB gLst (dCons (dSlice (dVar 1) (oSome (dC (.int 1))) (oNo)) (dNil)))) (dNil)))) (dNil))))))) (dNil))))
def od_1 : Ds := dSet 2 (dStb (dBin gAdd (dVar 2) (dLst (dCons (dSto (dCallB gTup (dCons (dLc (iSeq (dSto (dVar 1))) [3] (pName 3) (dYes) (dSto (dBin gAdd (dVar 3) (dC (.int 1))))) (dNil)))) (dCons (dSto (dCallB gTup (dCons (dLc (iSeq (dSto (dVar 1))) [3] (pName 3) (dYes) (dBin gSubI (dC (.int 0)) (dVar 3))) (dNil)))) (dCons (dSto (dCallB gTup (dCons (dLc (iSeq (dSto (dVar 1))) [3] (pName 3) (dYes) (dBin gEqA (dVar 3) (dC (.int 1)))) (dNil)))) (dNil)))))))
def od_0 : Ds := dSet 2 (dStb (dLst (dCons (dC .none) (dCons (dTup (dNil)) (dCons (dSto (dLst (dNil))) (dCons (dC (.str "012")) (dCons (dC (.int 0)) (dCons (dSto (dDct0)) (dCons (dSto (dCallB gLst (dCons (dVar 1) (dNil)))) (dCons (dSto (dBin gAdd (dVar 1) (dSlice (dVar 1) (oNo) (oSome (dC (.int 1)))))) (dCons (dSto (dSlice (dVar 1) (oSome (dC (.int 1))) (oNo))) (dCons (dSto (dBin gAdd (dVar 1) (dTup (dCons (dSto (dCallB gLen (dCons (dVar 1) (dNil)))) (dNil))))) (dCons (dTup (dCons (dSto (dVar 1)) (dNil))) (dNil))))))))))))))
theorem d__law_odd_def : d__law_odd = dSeq od_0 (dSeq od_1 (dSeq od_2 od_3)) := rfl
def lw7_2 : Ds := dSet 11 (dStb (dCallB gRepr (dCons (dVar 8) (dNil))))
def lw_2 : Ds := dSet 3 (dStb (dCall 1 F__law_orders (dCons (dSto (dVar 2)) (dNil))))
def lw_0 : Ds := dSet 1 (dStb (dCall 2 F__law_deck (dCons (dSv 0) (dCons (dC (.int 39)) (dNil)))))
def lw11_2 : Ds := dSet 12 (dStb (dCall 2 F__law_odd (dCons (dVar 1) (dCons (dSto (dVar 9)) (dNil)))))
def lw_9 : Ds := dSet 6 (dStb (dCall 2 F_folds (dCons (dSto (dVar 2)) (dCons (dSto (dVar 8)) (dNil)))))
def lw_10 : Ds := dIfS (dOr (dNot (dUn (gIsi .tup) (dVar 6))) (dBin gEqA (dVar 6) (dTup (dNil)))) (dRet (dC (.bool false))) (dPass)
def lw_3 : Ds := dSet 4 (dLc (iSeq (dSto (dVar 3))) [9] (pName 9) (dCall 1 F__law_is_flat (dCons (dSto (dVar 9)) (dNil))) (dSto (dVar 9)))
def lw11_0 : Ds := dPar2 10 13 (dStb (dCall 1 F__law_is_flat (dCons (dSto (dVar 9)) (dNil)))) (dStb (dCall 1 F__law_facing (dCons (dSto (dVar 9)) (dNil))))
def lw11_3 : Ds := dSet 10 (dStb (dAnd (dCall 1 F__law_is_layers (dCons (dSto (dVar 12)) (dNil))) (dCall 1 F__law_is_flat (dCons (dSto (dVar 12)) (dNil)))))
def lw7_4 : Ds := dIfS (dNot (dCall 3 F__law_are_refused (dCons (dVar 1) (dCons (dSto (dVar 2)) (dCons (dSto (dVar 8)) (dNil)))))) (dRet (dC (.bool false))) (dPass)
def lw7_0 : Ds := dSet 8 (dStb (dCall 3 F__law_above (dCons (dVar 1) (dCons (dSto (dVar 2)) (dCons (dSto (dCall 2 F__law_pick (dCons (dVar 1) (dCons (dSto (dVar 4)) (dNil))))) (dNil))))))
def lw11_5 : Ds := dSet 6 (dStb (dHeard errs [("BadPanels", hT3 "panels"), ("BadAbove", hT3 "above"), ("BadLayers", hT3 "layers")] false "told" (dSto (dCall 1 F_facing (dCons (dSto (dVar 12)) (dNil))))))
def lw_4 : Ds := dSet 5 (dStb (dBin gIx (dLst (dCons (dC (.int 1)) (dCons (dC (.int 2)) (dCons (dC (.int 6)) (dCons (dC (.int 16)) (dCons (dC (.int 50)) (dCons (dC (.int 144)) (dNil)))))))) (dBin gSubI (dVar 2) (dC (.int 1)))))
def lw_6 : Ds := dIfS (dOr (dBin gNeA (dCallB gLen (dCons (dVar 4) (dNil))) (dVar 5)) (dNot (dCall 2 F__law_same (dCons (dSto (dVar 6)) (dCons (dSto (dCallB gTup (dCons (dVar 4) (dNil)))) (dNil)))))) (dRet (dC (.bool false))) (dPass)
def lw_1 : Ds := dSet 2 (dStb (dCall 2 F__law_pick (dCons (dVar 1) (dCons (dSto (dLst (dCons (dC (.int 1)) (dCons (dC (.int 2)) (dCons (dC (.int 3)) (dCons (dC (.int 4)) (dCons (dC (.int 4)) (dCons (dC (.int 5)) (dCons (dC (.int 5)) (dCons (dC (.int 6)) (dNil))))))))))) (dNil)))))
def lw_5 : Ds := dSet 6 (dStb (dIf (dBin gEqA (dCall 2 F__law_draw (dCons (dVar 1) (dCons (dC (.int 2)) (dNil)))) (dC (.int 0))) (dCall 2 F_folds (dCons (dSto (dVar 2)) (dCons (dTup (dNil)) (dNil)))) (dCallK 2 F_folds 0 2 [1, 0] dNil (dCons (dTup (dNil)) (dCons (dSto (dVar 2)) (dNil))))))
def lw7_1 : Ds := dSet 10 (dStb (dCallB gTup (dCons (dLc (iSeq (dSto (dVar 4))) [9] (pName 9) (dBin gEqA (dLc (iSeq (dSto (dVar 8))) [14, 15] (pTup 2 (pCons (pName 14) (pCons (pName 15) (pNil)))) (dBin gLtA (dBin gIx (dVar 9) (dVar 14)) (dBin gIx (dVar 9) (dVar 15))) (dC (.int 1))) (dLst (dNil))) (dSto (dVar 9))) (dNil))))
def lw11_4 : Ds := dIfS (dNot (dCall 2 F__law_same (dCons (dSto (dLst (dCons (dSto (dCall 1 F_is_fold (dCons (dSto (dVar 12)) (dNil)))) (dCons (dSto (dCallK 1 F_is_fold 0 1 [0] dNil (dCons (dSto (dVar 12)) (dNil)))) (dNil))))) (dCons (dSto (dLst (dCons (dSto (dVar 10)) (dCons (dSto (dVar 10)) (dNil))))) (dNil))))) (dRet (dC (.bool false))) (dPass)
def lw11_6 : Ds := dIfS (dNot (dCall 2 F__law_same (dCons (dSto (dVar 6)) (dCons (dSto (dIf (dCall 1 F__law_is_layers (dCons (dSto (dVar 12)) (dNil))) (dTup (dCons (dC (.str "told")) (dCons (dSto (dCall 1 F__law_facing (dCons (dSto (dVar 12)) (dNil)))) (dNil)))) (dTup (dCons (dC (.str "layers")) (dCons (dSto (dVar 12)) (dCons (dC (.bool true)) (dNil))))))) (dNil))))) (dRet (dC (.bool false))) (dPass)
def lw7_3 : Ds := dIfS (dOr (dNot (dCall 2 F__law_same (dCons (dSto (dLst (dCons (dSto (dCall 2 F_folds (dCons (dSto (dVar 2)) (dCons (dSto (dVar 8)) (dNil))))) (dCons (dSto (dCallK 2 F_folds 0 2 [1, 0] dNil (dCons (dSto (dVar 8)) (dCons (dSto (dVar 2)) (dNil))))) (dNil))))) (dCons (dSto (dLst (dCons (dSto (dVar 10)) (dCons (dSto (dVar 10)) (dNil))))) (dNil))))) (dBin gNeA (dCallB gRepr (dCons (dVar 8) (dNil))) (dVar 11))) (dRet (dC (.bool false))) (dPass)
def lw_8 : Ds := dSet 8 (dStb (dCallB gTup (dCons (dCallB gSorted (dCons (dLc (iRange1 (dCons (dBin gSubI (dVar 2) (dC (.int 1))) (dNil))) [14] (pName 14) (dYes) (dSto (dIf (dBin gEqA (dCall 2 F__law_draw (dCons (dVar 1) (dCons (dC (.int 2)) (dNil)))) (dC (.int 0))) (dTup (dCons (dSto (dVar 14)) (dCons (dSto (dBin gAdd (dVar 14) (dC (.int 1)))) (dNil)))) (dTup (dCons (dSto (dBin gAdd (dVar 14) (dC (.int 1)))) (dCons (dSto (dVar 14)) (dNil))))))) (dNil))) (dNil))))
def lw11_1 : Ds := dIfS (dNot (dCall 2 F__law_same (dCons (dSto (dLst (dCons (dSto (dCall 1 F_is_fold (dCons (dSto (dVar 9)) (dNil)))) (dCons (dSto (dCallK 1 F_is_fold 0 1 [0] dNil (dCons (dSto (dVar 9)) (dNil)))) (dCons (dSto (dCall 1 F_facing (dCons (dSto (dVar 9)) (dNil)))) (dCons (dSto (dCallK 1 F_facing 0 1 [0] dNil (dCons (dSto (dVar 9)) (dNil)))) (dNil))))))) (dCons (dSto (dLst (dCons (dSto (dVar 10)) (dCons (dSto (dVar 10)) (dCons (dSto (dVar 13)) (dCons (dSto (dVar 13)) (dNil))))))) (dNil))))) (dRet (dC (.bool false))) (dPass)
def lw7_b : Ds := dSeq lw7_0 (dSeq lw7_1 (dSeq lw7_2 (dSeq lw7_3 lw7_4)))
def lw_7 : Ds := dFor (iRange1 (dCons (dC (.int 3)) (dNil))) (pName 7) lw7_b
def lw11_b : Ds := dSeq lw11_0 (dSeq lw11_1 (dSeq lw11_2 (dSeq lw11_3 (dSeq lw11_4 (dSeq lw11_5 lw11_6)))))
def lw_11 : Ds := dFor (iSeq (dSto (dBin gAdd (dLc (iRange1 (dCons (dC (.int 8)) (dNil))) [7] (pName 7) (dYes) (dSto (dCall 2 F__law_pick (dCons (dVar 1) (dCons (dSto (dVar 3)) (dNil)))))) (dLc (iRange1 (dCons (dC (.int 4)) (dNil))) [7] (pName 7) (dYes) (dSto (dCall 2 F__law_pick (dCons (dVar 1) (dCons (dSto (dVar 4)) (dNil))))))))) (pName 9) lw11_b
theorem d_law_def : d_law = dSeq lw_0 (dSeq lw_1 (dSeq lw_2 (dSeq lw_3 (dSeq lw_4 (dSeq lw_5 (dSeq lw_6 (dSeq lw_7 (dSeq lw_8 (dSeq lw_9 (dSeq lw_10 (dSeq lw_11 (dRet (dC (.bool true)))))))))))))) := rfl
end K39

set_option Elab.async false
set_option linter.all false
set_option maxRecDepth 100000
set_option maxHeartbeats 4000000
namespace K39
open PySem PySem.Spec PyProof.Rows L2 Dn
theorem pop_last (i : Nat) (e : List Sl) (l : List PyData) (y : PyData) (h : e[i]? = some (.ow (.lst (l ++ [y])))) : dPop i e = .ok (.d y) (e.set i (.ow (.lst l))) := by
  simp [dPop, ownL, owAt, h, mPop, setOw]
def dup (x : PyData) : PyData := .tuple [x, x]
theorem zip_dup : ∀ xs : List PyData, zipD xs xs = xs.map dup
  | [] => rfl
  | x :: xs => by have := zip_dup xs; unfold zipD at this ⊢; simp [this, dup]
theorem ne_len (xs ys : List PyData) (h : xs.length = ys.length) : gNeA (.int xs.length) (.int ys.length) = some (.d (.bool false)) := by
  simp [gNeA, orE, gNeX, gNe, SeqAt.shaped, PyData.canLay0, PyData.depth, PyData.eqv, h]
theorem ne_int (i : Int) : gNeA (.int i) (.int i) = some (.d (.bool false)) := by
  simp [gNeA, orE, gNeX, gNe, SeqAt.shaped, PyData.canLay0, PyData.depth, PyData.eqv]
theorem ne_bool (i : Bool) : gNeA (.bool i) (.bool i) = some (.d (.bool false)) := by
  simp [gNeA, orE, gNeX, gNe, SeqAt.shaped, PyData.canLay0, PyData.depth, PyData.eqv]
theorem ne_str (i : Str) : gNeA (.str i) (.str i) = some (.d (.bool false)) := by
  simp [gNeA, orE, gNeX]
theorem ne_dct : gNeA (.dict []) (.dict []) = some (.d (.bool false)) := rfl
theorem ne_nil : gNeA (.list []) (.list []) = some (.d (.bool false)) := by
  simp [gNeA, orE, gNeX, gNe, SeqAt.shaped, PyData.canLay0, PyData.canLayAll0, PyData.depth, PyData.depthAll, PyData.eqv, PyData.eqvAll]
theorem ne_cons (x : PyData) (xs : List PyData) : gNeA (.list (x :: xs)) (.list []) = some (.d (.bool true)) := rfl
theorem same_leaf (s0 s1 : Sl) (l : List PyData) (x : PyData) (h : plainD x = true) (hs : (∀ xs, x ≠ .tuple xs) ∧ ∀ xs, x ≠ .list xs) : same_r [s0, s1, .ow (.lst l), .d x, .d x] = .nx [s0, s1, .ow (.lst l), .d x, .d x] := by
  cases x with
  | tuple xs => exact absurd rfl (hs.1 xs)
  | list xs => exact absurd rfl (hs.2 xs)
  | none => rfl
  | bool b =>
    have e : gNeA (.bool b) (.bool b) = _ := ne_bool b
    simp [same_r, dIfS, dUn, dVar, Res.bind, Rv.val, gIsi2, gIsi, isiD, opt, sOf, dOr, dNot, onB, dBin, dC, gIsN, isNn, ne_bool, dPass]
  | int b => simp [same_r, dIfS, dUn, dVar, Res.bind, Rv.val, gIsi2, gIsi, isiD, opt, sOf, dOr, dNot, onB, dBin, dC, gIsN, isNn, ne_bool, ne_int, dPass]
  | str b => simp [same_r, dIfS, dUn, dVar, Res.bind, Rv.val, gIsi2, gIsi, isiD, opt, sOf, dOr, dNot, onB, dBin, dC, gIsN, isNn, ne_str, dPass]
  | dict kvs =>
    have : kvs = [] := by simpa [plainD] using h
    subst this
    simp [same_r, dIfS, dIf, dUn, dVar, Res.bind, Rv.val, gIsi2, gIsi, isiD, opt, sOf, dOr, dNot, onB, dBin, dC, gIsN, isNn, ne_dct, dPass]
theorem same_seq (s0 s1 : Sl) (l : List PyData) (x : PyData) (xs : List PyData) (h : x = .tuple xs ∨ x = .list xs) (hl : l.length + xs.length ≤ lim) : same_r [s0, s1, .ow (.lst l), .d x, .d x] = .nx [s0, s1, .ow (.lst (l ++ xs.map dup)), .d x, .d x] := by
  rcases h with rfl | rfl <;>
  simp [same_r, dSeq, sBind, dIfS, dUn, dVar, Res.bind, Rv.val, gIsi2, gIsi, isiD, opt, sOf, dOr, dNot, onB, dBin, dC, ne_bool, ne_int, gLen, dCallB, dCons, dNil, vals?, dPass, dDrop, dMeth, dLZip, dSto, sto, ownL, owAt, setOw, zip_dup, mExt, hl]
theorem szL_dupl (ws : List PyData) : ws.length ≤ szL ws := szL_len ws
theorem same_loop (s0 s1 : Sl) : ∀ (n : Nat) (ws : List PyData) (a b : Sl), plainL ws = true → szL ws < n → szL ws < 1000000 → ∃ a' b', whileD same_t same_b n [s0, s1, .ow (.lst (ws.map dup)), a, b] = .nx [s0, s1, .ow (.lst []), a', b'] := by
  intro n
  induction n with
  | zero => intro ws a b _ h; omega
  | succ n ih =>
    intro ws a b hp hn hm
    have hT : same_t [s0, s1, .ow (.lst (ws.map dup)), a, b] = .ok (.d (.bool !ws.isEmpty)) [s0, s1, .ow (.lst (ws.map dup)), a, b] := by
      cases ws with
      | nil => simp [same_t, dBin, dVar, Res.bind, Rv.val, dLst, dNil, datas?, ne_nil, opt]
      | cons w ws => simp [same_t, dBin, dVar, Res.bind, Rv.val, dLst, dNil, datas?, ne_cons, opt]
    unfold whileD
    rw [hT]
    rcases List.eq_nil_or_concat ws with rfl | ⟨l, x, rfl⟩
    · exact ⟨a, b, rfl⟩
    rw [List.concat_eq_append] at *
    have hE : (!(l ++ [x]).isEmpty) = true := by cases l <;> rfl
    rw [hE]
    dsimp only [sOf]
    have hb1 : same_b [s0, s1, .ow (.lst ((l ++ [x]).map dup)), a, b] = same_r [s0, s1, .ow (.lst (l.map dup)), .d x, .d x] := by
      have e : dPop 2 [s0, s1, .ow (.lst (l.map dup ++ [.tuple [x, x]])), a, b] = .ok (.d (.tuple [x, x])) [s0, s1, .ow (.lst (l.map dup)), a, b] := pop_last 2 [s0, s1, .ow (.lst (l.map dup ++ [dup x])), a, b] (l.map dup) (dup x) rfl
      rw [List.map_append, List.map_cons, List.map_nil]
      simp [same_b, dSeq, sBind, dAsgT, dSto, e, Res.bind, sto, sOf, dup, pTup, pCons, pName, pNil]
    rw [hb1]
    rw [plainL_app] at hp
    have hx : plainD x = true := by simp [plainL] at hp; exact hp.2
    have hl : plainL l = true := by simp at hp; exact hp.1
    rw [szL_app] at hn hm
    have hz := szD_pos x
    simp only [szL] at hn hm
    have h1 := szL_len l
    by_cases hs : ∃ xs, x = .tuple xs ∨ x = .list xs
    · obtain ⟨xs, hs⟩ := hs
      have hsz : szD x = szL xs + 1 := by rcases hs with rfl | rfl <;> simp [szD]
      have hxs : plainL xs = true := by rcases hs with rfl | rfl <;> simpa [plainD] using hx
      have h2 := szL_len xs
      rw [same_seq s0 s1 _ x xs hs (by simp; unfold lim; omega), ← List.map_append]
      exact ih (l ++ xs) _ _ (by rw [plainL_app, hl, hxs]; rfl) (by rw [szL_app]; omega) (by rw [szL_app]; omega)
    · rw [same_leaf s0 s1 _ x hx ⟨fun xs e => hs ⟨xs, .inl e⟩, fun xs e => hs ⟨xs, .inr e⟩⟩]
      exact ih l _ _ hl (by omega) (by omega)
theorem same_ok (x : PyData) (h : plainD x = true) (hs : szD x < 900000) : F__law_same [.d x, .d x] = .ok (.d (.bool true)) [.d x, .d x] := by
  obtain ⟨a, b, e⟩ := same_loop (.d x) (.d x) fuel [x] .un .un (by simp [plainL, h]) (by simp [szL, fuel]; omega) (by simp [szL]; omega)
  have e' : whileD same_t same_b fuel [.d x, .d x, .ow (.lst [.tuple [x, x]]), .un, .un] = .nx [.d x, .d x, .ow (.lst []), a, b] := e
  unfold F__law_same runF
  rw [d__law_same_def]
  simp [dSeq, sBind, dSet, dStb, stb, dLst, dTup, dCons, dNil, dSto, sto, dVar, Res.bind, datas?, lim, sOf, slot?, List.replicate, e', dRet, dC, finF, outs?]
end K39

set_option Elab.async false
set_option linter.all false
set_option maxRecDepth 100000
set_option maxHeartbeats 4000000
namespace K39
open PySem PySem.Spec PyProof.Rows L2 Dn
def ext (m : Nat) (row : List Int) : List (List Int) := ((List.range m).filter fun h : Nat => !row.contains (h : Int)).map fun h : Nat => row ++ [(h : Int)]
theorem longer_ext (m : Nat) (rows : List (List Int)) : longer m rows = rows.flatMap (ext m) := rfl
theorem ext_len (m : Nat) (row : List Int) : (ext m row).length ≤ m := by
  unfold ext
  rw [List.length_map]
  exact Nat.le_trans (List.length_filter_le _ _) (by simp)
theorem in_row (row : List Int) (h : Int) : gIn true (.int h) (tupI row) = some (.d (.bool (!row.contains h))) := by
  have h1 : (row.map PyData.int).all flatD = true := by simp [flatD]
  have h2 : ((row.map PyData.int).any fun d => PyData.eqv d (.int h)) = row.contains h := by
    induction row with
    | nil => rfl
    | cons a r ih =>
      have ih := ih (by simp [flatD])
      rw [List.map_cons, List.any_cons, ih, List.contains_cons]
      congr 1
      simp only [PyData.eqv]
      exact Bool.beq_comm
  unfold gIn tupI
  dsimp only
  rw [h1, h2]
  rfl
theorem row_lc (i j m : Nat) (row : List Int) (env : List Sl) (hi : env[i]? = some (.d (tupI row))) (hj : env[j]? = some .un) (hij : j ≠ i) (hr : row.length ≤ 1000) (acc : List PyData) (hl : acc.length + m ≤ lim) :
    lcD [j] (pName j) (dBin (gIn true) (dVar j) (dVar i)) (dSto (dBin gAdd (dVar i) (dTup (dCons (dSto (dVar j)) (dNil))))) (Dn.intsFrom 0 m) acc env = .ok (acc ++ (ext m row).map tupI) env := by
  have hjl : j < env.length := by
    rcases Nat.lt_or_ge j env.length with h | h
    · exact h
    · rw [List.getElem?_eq_none h] at hj; cases hj
  have hset : env.set j .un = env := by
    apply List.ext_getElem?
    intro k
    by_cases hk : k = j
    · subst hk; rw [List.getElem?_set_self hjl, hj]
    · rw [List.getElem?_set_ne (Ne.symm hk)]
  have h := lc_pure (vs := [j]) (p := pName j) (t := dBin (gIn true) (dVar j) (dVar i)) (el := dSto (dBin gAdd (dVar i) (dTup (dCons (dSto (dVar j)) (dNil))))) (env := env)
    (fun x => match x with | .int h => !row.contains h | _ => false) (fun x => match x with | .int h => tupI (row ++ [h]) | _ => .none) (fun x => env.set j (.d x)) (Dn.intsFrom 0 m) acc ?_ (by simpa [Dn.intsFrom] using hl)
  · rw [h]
    congr 2
    simp [Dn.intsFrom, List.filter_map, Function.comp_def, ext]
  · intro x hx
    obtain ⟨k, _, rfl⟩ := List.mem_map.mp hx
    have e1 : dVar j (env.set j (.d (.int (0 + (k : Int))))) = .ok (.d (.int (0 + (k : Int)))) (env.set j (.d (.int (0 + (k : Int))))) := var_d (by rw [List.getElem?_set_self hjl])
    have e2 : dVar i (env.set j (.d (.int (0 + (k : Int))))) = .ok (.d (tupI row)) (env.set j (.d (.int (0 + (k : Int))))) := var_d (by rw [List.getElem?_set_ne hij, hi])
    refine ⟨rfl, ?_, fun _ => ?_, ?_⟩
    · unfold dBin
      rw [e1]; simp only [Res.bind]
      rw [e2]; simp only [Rv.val]
      rw [in_row]; rfl
    · have e3 : gAdd (tupI row) (.tuple [.int (0 + (k : Int))]) = some (.d (tupI (row ++ [0 + (k : Int)]))) := by
        have : row.length + 1 ≤ lim := by unfold lim; omega
        simp [gAdd, orE, tupI, gAddX, this]
      exact sto_d (bin_d e2 (tup_d (cons_d (sto_d e1) rfl) rfl (by simp)) rfl rfl e3)
    · show (env.set j _).set j .un = env
      rw [List.set_set, hset]
theorem ord_c_ok (m : Nat) (hm : m ≤ 6) (s1 s2 : Sl) (acc : List PyData) (row : List Int) (hr : row.length ≤ 1000) :
    ord_c [.d (.int m), s1, s2, .ow (.lst acc), .d (tupI row), .un] = .ok (.ow (.lst ((ext m row).map tupI))) [.d (.int m), s1, s2, .ow (.lst acc), .d (tupI row), .un] := by
  have e0 : iRange1 (dCons (dVar 0) dNil) [.d (.int m), s1, s2, .ow (.lst acc), .d (tupI row), .un] = .ok (Dn.intsFrom 0 m) [.d (.int m), s1, s2, .ow (.lst acc), .d (tupI row), .un] := range1n rfl (by omega)
  have h := row_lc 4 5 m row [.d (.int m), s1, s2, .ow (.lst acc), .d (tupI row), .un] rfl rfl (by decide) hr [] (by simp; unfold lim; omega)
  unfold ord_c dLc
  rw [e0]
  simp only [Res.bind]
  rw [if_pos (show noOw [.d (.int m), s1, s2, .ow (.lst acc), .d (tupI row), .un] [5] = true from rfl)]
  have hw : wipeE [.d (.int m), s1, s2, .ow (.lst acc), .d (tupI row), .un] [5] = [.d (.int m), s1, s2, .ow (.lst acc), .d (tupI row), .un] := rfl
  rw [hw, h]
  rfl
theorem meth_d {i : Nat} {m : List Rv → List Sl → List PyData → Option (PyData × List PyData)} {fr : DeL} {env e1 : List Sl} {xs0 xs ys : List PyData} {y : PyData} {rs : List Rv} (h0 : ownL env i = some xs0) (h1 : fr env = .ok rs e1) (h2 : ownL e1 i = some xs) (h3 : m rs e1 xs = some (y, ys)) : dMeth i m fr env = .ok (.d y) (setOw e1 i (.lst ys)) := by
  unfold dMeth; rw [h0]; simp only []; rw [h1]; simp only [Res.bind]; rw [h2]; simp only []; rw [h3]
theorem ord_rows (m : Nat) (hm : m ≤ 6) (s1 s2 : Sl) : ∀ (rows : List (List Int)) (acc : List PyData) (s4 : Sl), (∀ r ∈ rows, r.length ≤ 1000) → acc.length + rows.length * m ≤ lim → ∃ s4', forD (pName 4) ord_i (rows.map tupI) [.d (.int m), s1, s2, .ow (.lst acc), s4, .un] = .nx [.d (.int m), s1, s2, .ow (.lst (acc ++ (longer m rows).map tupI)), s4', .un]
  | [], acc, s4, _, _ => ⟨s4, by simp [forD, longer]⟩
  | r :: rows, acc, s4, hr, hl => by
    rw [List.length_cons, Nat.succ_mul] at hl
    have he := ext_len m r
    obtain ⟨s4', ih⟩ := ord_rows m hm s1 s2 rows (acc ++ (ext m r).map tupI) (.d (tupI r)) (fun z hz => hr z (by simp [hz])) (by simp; omega)
    refine ⟨s4', ?_⟩
    have hb : ord_i [.d (.int m), s1, s2, .ow (.lst acc), .d (tupI r), .un] = .nx [.d (.int m), s1, s2, .ow (.lst (acc ++ (ext m r).map tupI)), .d (tupI r), .un] := by
      have hl2 : acc.length + (ext m r).length ≤ lim := by omega
      refine drop_d (r := .d .none) (meth_d rfl (cons_d (ord_c_ok m hm s1 s2 acc r (hr r (by simp))) rfl) rfl ?_)
      show (if acc.length + ((ext m r).map tupI).length ≤ lim then _ else _) = _
      rw [List.length_map, if_pos hl2]
    have e : forD (pName 4) ord_i ((r :: rows).map tupI) [.d (.int m), s1, s2, .ow (.lst acc), s4, .un] = forD (pName 4) ord_i (rows.map tupI) [.d (.int m), s1, s2, .ow (.lst (acc ++ (ext m r).map tupI)), .d (tupI r), .un] := by
      exact for_cons (e := [.d (.int m), s1, s2, .ow (.lst acc), .d (tupI r), .un]) rfl hb
    rw [e, ih]
    simp [longer, ext]
theorem longer_len (m : Nat) (rows : List (List Int)) : (longer m rows).length ≤ rows.length * m := by
  rw [longer_ext]
  induction rows with
  | nil => simp
  | cons r rows ih =>
    have := ext_len m r
    rw [List.flatMap_cons, List.length_append, List.length_cons, Nat.succ_mul]
    omega
theorem rowsN_len (m k : Nat) : (rowsN m k).length ≤ m ^ k := by
  induction k with
  | zero => simp [rowsN]
  | succ k ih =>
    have h := longer_len m (rowsN m k)
    show (longer m (rowsN m k)).length ≤ _
    rw [Nat.pow_succ]
    exact Nat.le_trans h (Nat.mul_le_mul_right _ ih)
theorem rowsN_row (m k : Nat) : ∀ r ∈ rowsN m k, r.length = k := by
  induction k with
  | zero => intro r h; simp [rowsN] at h; subst h; rfl
  | succ k ih =>
    intro r h
    have h : r ∈ longer m (rowsN m k) := h
    rw [longer_ext, List.mem_flatMap] at h
    obtain ⟨r0, h0, h1⟩ := h
    unfold ext at h1
    obtain ⟨z, _, rfl⟩ := List.mem_map.mp h1
    simp [ih r0 h0]
theorem rowsN_small (m k : Nat) (hm : m ≤ 6) (hk : k ≤ 6) : (rowsN m k).length * m ≤ 300000 := by
  have h1 := rowsN_len m k
  have h2 : m ^ k ≤ 6 ^ k := Nat.pow_le_pow_left hm k
  have h3 : 6 ^ k ≤ 6 ^ 6 := Nat.pow_le_pow_right (by decide) hk
  have h4 : (rowsN m k).length * m ≤ 6 ^ 6 * 6 := Nat.mul_le_mul (by omega) hm
  simpa using Nat.le_trans h4 (by decide)
def ordE (m k : Nat) (e : List Sl) : Prop := ∃ s1 s2 s3 s4, e = [.d (.int m), s1, s2, s3, s4, .un] ∧ ((k = 0 ∧ s1 = .ow (.lst ((rowsN m k).map tupI))) ∨ s1 = .d (.list ((rowsN m k).map tupI)))
theorem ord_turn (m k : Nat) (hm : m ≤ 6) (hk : k ≤ 6) (x : PyData) (e : List Sl) (h : ordE m k e) : ∃ e1, ord_b (e.set 2 (.d x)) = .nx e1 ∧ ordE m (k + 1) e1 := by
  obtain ⟨s1, s2, s3, s4, rfl, hs⟩ := h
  obtain ⟨s4', h⟩ := ord_rows m hm s1 (.d x) (rowsN m k) [] s4 (fun r hr => by rw [rowsN_row m k r hr]; omega) (by have := rowsN_small m k hm hk; simp; unfold lim; omega)
  refine ⟨[.d (.int m), .d (.list ((rowsN m (k + 1)).map tupI)), .d x, .d (.list ((rowsN m (k + 1)).map tupI)), s4', .un], ?_, _, _, _, _, rfl, .inr rfl⟩
  have h2 : forD (pName 4) ord_i ((rowsN m k).map tupI) [.d (.int m), s1, .d x, .ow (.lst []), s4, .un] = .nx [.d (.int m), s1, .d x, .ow (.lst ((rowsN m (k + 1)).map tupI)), s4', .un] := by simpa [rowsN] using h
  have hv : ∀ e3 : List Sl, e3 = [.d (.int m), s1, .d x, .ow (.lst []), s4, .un] → iSeq (dSto (dCallB Dn.gLst (dCons (dVar 1) dNil))) e3 = .ok ((rowsN m k).map tupI) e3 := by
    rintro e3 rfl
    rcases hs with ⟨_, rfl⟩ | rfl
    · exact iseq_l (sto_ow (callB1 (ra := .bo 1) rfl rfl rfl))
    · exact iseq_l (sto_ow (callB1 (ra := .d _) rfl rfl rfl))
  refine (seq_nx (set_ow (stb_ow (lst_d rfl rfl (by simp))))).trans ?_
  refine (seq_nx ((for_d (hv _ rfl)).trans h2)).trans ?_
  rfl
theorem orders_ok (m : Nat) (h1 : 1 ≤ m) (hm : m ≤ 6) : F__law_orders [.d (.int m)] = .ok (.d (.list ((ords m).map tupI))) [.d (.int m)] := by
  obtain ⟨e', h1, h2⟩ := for_inv (p := pName 2) (body := ord_b) (fun k e => k ≤ 6 ∧ ordE m k e) (Dn.intsFrom 0 m) 0 [.d (.int m), .ow (.lst [.tuple []]), .un, .un, .un, .un] ⟨by omega, _, _, _, _, rfl, .inl ⟨rfl, rfl⟩⟩ fun x hx k e hk hI => by
    have hk' : k < m := by simpa [Dn.intsFrom] using hk
    obtain ⟨e1, a, b⟩ := ord_turn m k hm (by omega) x e hI.2
    exact ⟨_, e1, rfl, a, by omega, b⟩
  have hlen : 0 + (Dn.intsFrom 0 m).length = m := by simp [Dn.intsFrom]
  rw [hlen] at h2
  obtain ⟨_, s1, s2, s3, s4, rfl, hs1⟩ := h2
  have h1 : forD (pName 2) ord_b (Dn.intsFrom 0 m) [.d (.int m), .ow (.lst [.tuple []]), .un, .un, .un, .un] = _ := h1
  have hs1 : s1 = .d (.list ((ords m).map tupI)) := by
    rcases hs1 with ⟨z, _⟩ | z
    · omega
    · exact z
  subst hs1
  have h3 : d__law_orders [.d (.int m), .un, .un, .un, .un, .un] = .ret (.d (.list ((ords m).map tupI))) [.d (.int m), .d (.list ((ords m).map tupI)), s2, s3, s4, .un] := by
    have a1 : dSet 1 (dStb (dLst (dCons (dTup dNil) dNil))) [.d (.int m), .un, .un, .un, .un, .un] = .nx [.d (.int m), .ow (.lst [.tuple []]), .un, .un, .un, .un] := rfl
    have a2 : iRange1 (dCons (dVar 0) dNil) [.d (.int m), .ow (.lst [.tuple []]), .un, .un, .un, .un] = .ok (Dn.intsFrom 0 m) [.d (.int m), .ow (.lst [.tuple []]), .un, .un, .un, .un] := range1n (m := m) rfl (by omega)
    have a3 := (for_d (p := pName 2) (body := ord_b) a2).trans h1
    rw [d__law_orders_def, seq_nx a1, seq_nx a3]
    exact ret_d rfl
  have q := run_ret (g := d__law_orders) (n := 6) (as := [.d (.int m)]) h3
  exact q
/-! ### the program's own rows -/
theorem rowp_turn (m k : Nat) (hm : m ≤ 6) (hk : k ≤ 6) (s1 s2 : Sl) (h1 : s1 = .d (.list ((rowsN m k).map tupI))) :
    row_b [.d (.int m), s1, s2, .un, .un] = .nx [.d (.int m), .ow (.lst ((rowsN m (k + 1)).map tupI)), s2, .un, .un] := by
  subst h1
  have hsm := rowsN_small m k hm hk
  have q := dLc2_pure (fi := iSeq (dSto (dVar 1))) (fi1 := iRange1 (dCons (dVar 0) dNil)) (vs := [3, 4]) (vs1 := [4]) (p := pName 3) (p1 := pName 4) (t := dYes) (t1 := dBin (gIn true) (dVar 4) (dVar 3)) (el := dSto (dBin gAdd (dVar 3) (dTup (dCons (dSto (dVar 4)) dNil))))
    (env := [.d (.int m), .d (.list ((rowsN m k).map tupI)), s2, .un, .un]) (xs := (rowsN m k).map tupI)
    (fun x => match x with | .tuple r => (ext m (r.filterMap fun y => match y with | .int i => some i | _ => none)).map tupI | _ => []) (fun x => [.d (.int m), .d (.list ((rowsN m k).map tupI)), s2, .d x, .un]) (fun x => [.d (.int m), .d (.list ((rowsN m k).map tupI)), s2, .d x, .un]) (fun _ => Dn.intsFrom 0 m) m rfl rfl rfl ?_ (by simpa using Nat.le_trans hsm (Nat.le_trans (by omega) lim_ge))
  · have e : (List.flatMap (fun x => match x with | .tuple r => (ext m (r.filterMap fun y => match y with | .int i => some i | _ => none)).map tupI | _ => []) ((rowsN m k).map tupI)) = (rowsN m (k + 1)).map tupI := by
      show _ = (longer m (rowsN m k)).map tupI
      rw [longer_ext, List.map_flatMap, List.flatMap_map]
      congr 1
      funext r
      simp [tupI, List.filterMap_map, Function.comp_def]
    rw [e] at q
    unfold row_b
    exact set_ow q
  · intro x hx
    obtain ⟨r, hr, rfl⟩ := List.mem_map.mp hx
    have hz : (r.map PyData.int).filterMap (fun y => match y with | .int i => some i | _ => none) = r := by simp [List.filterMap_map, Function.comp_def]
    refine ⟨rfl, rfl, range1n (m := m) rfl (by omega), ?_, fun acc ha => ?_, rfl⟩
    · show List.length ((ext m _).map tupI) ≤ m
      rw [List.length_map]
      exact ext_len m _
    · have w := row_lc 3 4 m r [.d (.int m), .d (.list ((rowsN m k).map tupI)), s2, .d (tupI r), .un] rfl rfl (by decide) (by rw [rowsN_row m k r hr]; omega) acc ha
      show lcD [4] (pName 4) (dBin (gIn true) (dVar 4) (dVar 3)) (dSto (dBin gAdd (dVar 3) (dTup (dCons (dSto (dVar 4)) dNil)))) (Dn.intsFrom 0 m) acc [.d (.int m), .d (.list ((rowsN m k).map tupI)), s2, .d (tupI r), .un] = .ok (acc ++ (ext m ((r.map PyData.int).filterMap (fun y => match y with | .int i => some i | _ => none))).map tupI) [.d (.int m), .d (.list ((rowsN m k).map tupI)), s2, .d (tupI r), .un]
      rw [hz]
      exact w
theorem rowp_turn2 (m k : Nat) (hm : m ≤ 6) (hk : k ≤ 6) (s2 : Sl) : row_b [.d (.int m), .ow (.lst ((rowsN m k).map tupI)), s2, .un, .un] = .nx [.d (.int m), .ow (.lst ((rowsN m (k + 1)).map tupI)), s2, .un, .un] := by
  have h := rowp_turn m k hm hk _ s2 rfl
  have e : ∀ (p : Put) (t : De) (fi1 : Di) (p1 : Put) (t1 el : De), dLc2 (iSeq (dSto (dVar 1))) [3, 4] [4] p t fi1 p1 t1 el [.d (.int m), .ow (.lst ((rowsN m k).map tupI)), s2, .un, .un] = dLc2 (iSeq (dSto (dVar 1))) [3, 4] [4] p t fi1 p1 t1 el [.d (.int m), .d (.list ((rowsN m k).map tupI)), s2, .un, .un] := fun p t fi1 p1 t1 el => by
    have e1 : iSeq (dSto (dVar 1)) [.d (.int m), .ow (.lst ((rowsN m k).map tupI)), s2, .un, .un] = .ok ((rowsN m k).map tupI) [.d (.int m), .d (.list ((rowsN m k).map tupI)), s2, .un, .un] := rfl
    have e2 : iSeq (dSto (dVar 1)) [.d (.int m), .d (.list ((rowsN m k).map tupI)), s2, .un, .un] = .ok ((rowsN m k).map tupI) [.d (.int m), .d (.list ((rowsN m k).map tupI)), s2, .un, .un] := rfl
    unfold dLc2
    rw [e1, e2]
  rw [← h]
  unfold row_b dSet
  rw [e]
theorem rows_ok (m : Nat) (hm : m ≤ 6) : F_rows_of_heights [.d (.int m)] = .ok (.ow (.lst ((ords m).map tupI))) [.d (.int m)] := by
  obtain ⟨e', h1, h2⟩ := for_inv (p := pName 2) (body := row_b) (fun k e => k ≤ 6 ∧ ∃ s2, e = [.d (.int m), .ow (.lst ((rowsN m k).map tupI)), s2, .un, .un]) (Dn.intsFrom 0 m) 0 [.d (.int m), .ow (.lst [.tuple []]), .un, .un, .un] ⟨by omega, _, rfl⟩ fun x hx k e hk hI => by
    have hk' : k < m := by simpa [Dn.intsFrom] using hk
    obtain ⟨h6, s2, rfl⟩ := hI
    exact ⟨_, _, rfl, rowp_turn2 m k hm h6 (.d x), by omega, _, rfl⟩
  have hlen : 0 + (Dn.intsFrom 0 m).length = m := by simp [Dn.intsFrom]
  rw [hlen] at h2
  obtain ⟨_, s2, rfl⟩ := h2
  have h3 : d_rows_of_heights [.d (.int m), .un, .un, .un, .un] = .ret (.bo 1) [.d (.int m), .ow (.lst ((ords m).map tupI)), s2, .un, .un] := by
    have a1 : dSet 1 (dStb (dLst (dCons (dTup dNil) dNil))) [.d (.int m), .un, .un, .un, .un] = .nx [.d (.int m), .ow (.lst [.tuple []]), .un, .un, .un] := rfl
    have a2 : iRange1 (dCons (dVar 0) dNil) [.d (.int m), .ow (.lst [.tuple []]), .un, .un, .un] = .ok (Dn.intsFrom 0 m) [.d (.int m), .ow (.lst [.tuple []]), .un, .un, .un] := range1n (m := m) rfl (by omega)
    have a3 := (for_d (p := pName 2) (body := row_b) a2).trans h1
    rw [d_rows_of_heights_def, seq_nx a1, seq_nx a3]
    exact ret_d rfl
  have q := run_ret (g := d_rows_of_heights) (n := 5) (as := [.d (.int m)]) h3
  exact q
end K39

set_option Elab.async false
set_option linter.all false
set_option maxRecDepth 100000
set_option maxHeartbeats 0
namespace K39
open PySem PySem.Spec PyProof.Rows L2 Dn
def chkB (F : Fn) (l : List Int) (b : Bool) : Bool := match F [.d (tupI l)] with
  | .ok (.d (.bool c)) [.d _] => c == b
  | _ => false
def chkP (F : Fn) (l : List Int) (ps : List (Int × Int)) : Bool := match F [.d (tupI l)] with
  | .ok (.d (.tuple ds)) [.d _] => pairs? ds == some ps
  | _ => false
def faceI (l : List Int) : List (Int × Int) := (List.range l.length).flatMap fun i => ((List.range l.length).filter fun j => decide (i < j) && decide ((l.getD i 0 - l.getD j 0).natAbs = 1)).map fun j : Nat => ((i : Int), (j : Int))
def chkAll (l : List Int) : Bool := chkB F__law_is_flat l (flatI l) && (chkB F_has_crossing l (!flatI l) && (chkP F__law_facing l (faceI l) && chkP F_facing l (faceI l)))
theorem all_and {xs : List (List Int)} (h1 : xs.all (fun l => chkB F__law_is_flat l (flatI l)) = true) (h2 : xs.all (fun l => chkB F_has_crossing l (!flatI l)) = true) (h3 : xs.all (fun l => chkP F__law_facing l (faceI l)) = true) (h4 : xs.all (fun l => chkP F_facing l (faceI l)) = true) : xs.all chkAll = true := by
  rw [List.all_eq_true] at h1 h2 h3 h4 ⊢
  intro l hl
  unfold chkAll
  have h1 := h1 l hl; have h2 := h2 l hl; have h3 := h3 l hl; have h4 := h4 l hl
  rw [h1, h2, h3, h4]; rfl
end K39

set_option Elab.async false
set_option linter.all false
set_option maxRecDepth 100000
set_option maxHeartbeats 4000000
namespace Dn
open PySem PySem.Spec PyProof.Rows L2
theorem chain_t {g g' : PyData → PyData → Option Rv} {fa fb fc : De} {env e1 e2 e3 : List Sl} {ra rb rc r : Rv} {x y y' z : PyData} (h1 : fa env = .ok ra e1) (h2 : fb e1 = .ok rb e2) (hx : ra.val e2 = some x) (hy : rb.val e2 = some y) (hg : g x y = some (.d (.bool true))) (h3 : fc e2 = .ok rc e3) (hy' : rb.val e3 = some y') (hz : rc.val e3 = some z) (hg' : g' y' z = some r) : dChain g g' fa fb fc env = .ok r e3 := by
  unfold dChain; rw [h1]; simp only [Res.bind]; rw [h2]; simp only []; rw [hx, hy]; simp only []; rw [hg]; simp only []; rw [h3]; simp only []; rw [hy', hz]; simp only []; rw [hg']; rfl
theorem chain_f {g g' : PyData → PyData → Option Rv} {fa fb fc : De} {env e1 e2 : List Sl} {ra rb : Rv} {x y : PyData} (h1 : fa env = .ok ra e1) (h2 : fb e1 = .ok rb e2) (hx : ra.val e2 = some x) (hy : rb.val e2 = some y) (hg : g x y = some (.d (.bool false))) : dChain g g' fa fb fc env = .ok (.d (.bool false)) e2 := by
  unfold dChain; rw [h1]; simp only [Res.bind]; rw [h2]; simp only []; rw [hx, hy]; simp only []; rw [hg]
/-- three whole numbers in order, the first two of them by g, the last two by g' -/
theorem chain_b {g g' : PyData → PyData → Option Rv} {fa fb fc : De} {env : List Sl} {x y z : PyData} {b b' : Bool} (h1 : fa env = .ok (.d x) env) (h2 : fb env = .ok (.d y) env) (h3 : fc env = .ok (.d z) env) (hg : g x y = some (.d (.bool b))) (hg' : g' y z = some (.d (.bool b'))) : dChain g g' fa fb fc env = .ok (.d (.bool (b && b'))) env := by
  cases b with
  | true => exact chain_t h1 h2 rfl rfl hg h3 rfl rfl hg'
  | false => exact chain_f h1 h2 rfl rfl hg
theorem if_fp {f : De} {g1 : Ds} {env e1 : List Sl} (h : f env = .ok (.d (.bool false)) e1) : dIfS f g1 dPass env = .nx e1 := if_f h
theorem and_b {f g : De} {env : List Sl} {b b' : Bool} (h : f env = .ok (.d (.bool b)) env) (h2 : g env = .ok (.d (.bool b')) env) : dAnd f g env = .ok (.d (.bool (b && b'))) env := by
  cases b with
  | true => rw [and_t h, h2, Bool.true_and]
  | false => rw [and_f h, Bool.false_and]
theorem or_b {f g : De} {env : List Sl} {b b' : Bool} (h : f env = .ok (.d (.bool b)) env) (h2 : g env = .ok (.d (.bool b')) env) : dOr f g env = .ok (.d (.bool (b || b'))) env := by
  cases b with
  | true => rw [or_t h, Bool.true_or]
  | false => rw [or_f h, h2, Bool.false_or]
theorem not_t {f : De} {env e1 : List Sl} (h : f env = .ok (.d (.bool true)) e1) : dNot f env = .ok (.d (.bool false)) e1 := not_d h
theorem not_f {f : De} {env e1 : List Sl} (h : f env = .ok (.d (.bool false)) e1) : dNot f env = .ok (.d (.bool true)) e1 := not_d h
theorem cons1 {fa : De} {env e1 : List Sl} {x : Rv} (h : fa env = .ok x e1) : dCons fa dNil env = .ok [x] e1 := cons_d h rfl
theorem callK_d {np : Nat} {F : Fn} {n m : Nat} {π : List Nat} {fr fk : DeL} {env e1 e2 : List Sl} {rs zs : List Rv} (h1 : fr env = .ok rs e1) (h2 : fk e1 = .ok zs e2) (h : rs.length = n ∧ zs.length = m ∧ (π.all fun j => decide (j < (rs ++ zs).length)) = true) : dCallK np F n m π fr fk env = callF np F (permL π (.d .none) (rs ++ zs)) e2 := by
  unfold dCallK; rw [h1]; simp only [Res.bind]; rw [h2]; simp only []; rw [if_pos h]
theorem callF_d {np : Nat} {F : Fn} {env : List Sl} {as : List PyData} {r : Rv} {outs : List Sl} (hn : as.length = np) (hF : F (as.map Sl.d) = .ok r outs) (ho : outs.length = np) : callF np F (as.map Rv.d) env = .ok r env :=
  call_d (fr := fun e => .ok (as.map Rv.d) e) rfl hn hF ho
theorem callF_exc {np : Nat} {F : Fn} {env : List Sl} {as : List PyData} {c : Str} {x : PyData} (hn : as.length = np) (hF : F (as.map Sl.d) = .exc c x) : callF np F (as.map Rv.d) env = .exc c x env :=
  call_exc (fr := fun e => .ok (as.map Rv.d) e) rfl hn hF
theorem meth_d {i : Nat} {m : List Rv → List Sl → List PyData → Option (PyData × List PyData)} {fr : DeL} {env e1 : List Sl} {xs0 xs ys : List PyData} {y : PyData} {rs : List Rv} (h0 : ownL env i = some xs0) (h1 : fr env = .ok rs e1) (h2 : ownL e1 i = some xs) (h3 : m rs e1 xs = some (y, ys)) : dMeth i m fr env = .ok (.d y) (setOw e1 i (.lst ys)) := by
  unfold dMeth; rw [h0]; simp only []; rw [h1]; simp only [Res.bind]; rw [h2]; simp only []; rw [h3]
theorem bind_ok {α β : Type} {r : Res α} {a : α} {e : List Sl} {k : α → List Sl → Res β} (h : r = .ok a e) : r.bind k = k a e := by rw [h]; rfl
end Dn

set_option Elab.async false
set_option linter.all false
set_option maxRecDepth 100000
set_option maxHeartbeats 0
namespace K39
open PySem PySem.Spec PyProof.Rows L2 Dn
theorem c1 : (ords 1).all chkAll = true := by kernel_rfl
theorem c2 : (ords 2).all chkAll = true := by kernel_rfl
theorem c3 : (ords 3).all chkAll = true := by kernel_rfl
theorem c4 : (ords 4).all chkAll = true := by kernel_rfl
theorem c5a : (ords 5).all (fun l => chkB F__law_is_flat l (flatI l)) = true := by kernel_rfl
theorem c5b : (ords 5).all (fun l => chkB F_has_crossing l (!flatI l)) = true := by kernel_rfl
theorem c5c : (ords 5).all (fun l => chkP F__law_facing l (faceI l)) = true := by kernel_rfl
theorem c5d : (ords 5).all (fun l => chkP F_facing l (faceI l)) = true := by kernel_rfl
theorem c5 : (ords 5).all chkAll = true := all_and c5a c5b c5c c5d
end K39

set_option Elab.async false
set_option linter.all false
set_option maxRecDepth 100000
set_option maxHeartbeats 0
namespace K39
open PySem PySem.Spec PyProof.Rows L2 Dn
theorem c60a : (((ords 6).drop 0).take 120).all (fun l => chkB F__law_is_flat l (flatI l)) = true := by kernel_rfl
theorem c60b : (((ords 6).drop 0).take 120).all (fun l => chkB F_has_crossing l (!flatI l)) = true := by kernel_rfl
theorem c60c : (((ords 6).drop 0).take 120).all (fun l => chkP F__law_facing l (faceI l)) = true := by kernel_rfl
theorem c60d : (((ords 6).drop 0).take 120).all (fun l => chkP F_facing l (faceI l)) = true := by kernel_rfl
theorem c60 : (((ords 6).drop 0).take 120).all chkAll = true := all_and c60a c60b c60c c60d
end K39

set_option Elab.async false
set_option linter.all false
set_option maxRecDepth 100000
set_option maxHeartbeats 0
namespace K39
open PySem PySem.Spec PyProof.Rows L2 Dn
theorem c61a : (((ords 6).drop 120).take 120).all (fun l => chkB F__law_is_flat l (flatI l)) = true := by kernel_rfl
theorem c61b : (((ords 6).drop 120).take 120).all (fun l => chkB F_has_crossing l (!flatI l)) = true := by kernel_rfl
theorem c61c : (((ords 6).drop 120).take 120).all (fun l => chkP F__law_facing l (faceI l)) = true := by kernel_rfl
theorem c61d : (((ords 6).drop 120).take 120).all (fun l => chkP F_facing l (faceI l)) = true := by kernel_rfl
theorem c61 : (((ords 6).drop 120).take 120).all chkAll = true := all_and c61a c61b c61c c61d
end K39

set_option Elab.async false
set_option linter.all false
set_option maxRecDepth 100000
set_option maxHeartbeats 0
namespace K39
open PySem PySem.Spec PyProof.Rows L2 Dn
theorem c62a : (((ords 6).drop 240).take 120).all (fun l => chkB F__law_is_flat l (flatI l)) = true := by kernel_rfl
theorem c62b : (((ords 6).drop 240).take 120).all (fun l => chkB F_has_crossing l (!flatI l)) = true := by kernel_rfl
theorem c62c : (((ords 6).drop 240).take 120).all (fun l => chkP F__law_facing l (faceI l)) = true := by kernel_rfl
theorem c62d : (((ords 6).drop 240).take 120).all (fun l => chkP F_facing l (faceI l)) = true := by kernel_rfl
theorem c62 : (((ords 6).drop 240).take 120).all chkAll = true := all_and c62a c62b c62c c62d
end K39

set_option Elab.async false
set_option linter.all false
set_option maxRecDepth 100000
set_option maxHeartbeats 0
namespace K39
open PySem PySem.Spec PyProof.Rows L2 Dn
theorem c63a : (((ords 6).drop 360).take 120).all (fun l => chkB F__law_is_flat l (flatI l)) = true := by kernel_rfl
theorem c63b : (((ords 6).drop 360).take 120).all (fun l => chkB F_has_crossing l (!flatI l)) = true := by kernel_rfl
theorem c63c : (((ords 6).drop 360).take 120).all (fun l => chkP F__law_facing l (faceI l)) = true := by kernel_rfl
theorem c63d : (((ords 6).drop 360).take 120).all (fun l => chkP F_facing l (faceI l)) = true := by kernel_rfl
theorem c63 : (((ords 6).drop 360).take 120).all chkAll = true := all_and c63a c63b c63c c63d
end K39

set_option Elab.async false
set_option linter.all false
set_option maxRecDepth 100000
set_option maxHeartbeats 0
namespace K39
open PySem PySem.Spec PyProof.Rows L2 Dn
theorem c64a : (((ords 6).drop 480).take 120).all (fun l => chkB F__law_is_flat l (flatI l)) = true := by kernel_rfl
theorem c64b : (((ords 6).drop 480).take 120).all (fun l => chkB F_has_crossing l (!flatI l)) = true := by kernel_rfl
theorem c64c : (((ords 6).drop 480).take 120).all (fun l => chkP F__law_facing l (faceI l)) = true := by kernel_rfl
theorem c64d : (((ords 6).drop 480).take 120).all (fun l => chkP F_facing l (faceI l)) = true := by kernel_rfl
theorem c64 : (((ords 6).drop 480).take 120).all chkAll = true := all_and c64a c64b c64c c64d
end K39

set_option Elab.async false
set_option linter.all false
set_option maxRecDepth 100000
set_option maxHeartbeats 0
namespace K39
open PySem PySem.Spec PyProof.Rows L2 Dn
theorem c65a : (((ords 6).drop 600).take 120).all (fun l => chkB F__law_is_flat l (flatI l)) = true := by kernel_rfl
theorem c65b : (((ords 6).drop 600).take 120).all (fun l => chkB F_has_crossing l (!flatI l)) = true := by kernel_rfl
theorem c65c : (((ords 6).drop 600).take 120).all (fun l => chkP F__law_facing l (faceI l)) = true := by kernel_rfl
theorem c65d : (((ords 6).drop 600).take 120).all (fun l => chkP F_facing l (faceI l)) = true := by kernel_rfl
theorem c65 : (((ords 6).drop 600).take 120).all chkAll = true := all_and c65a c65b c65c c65d
end K39

set_option Elab.async false
set_option linter.all false
set_option maxRecDepth 100000
set_option maxHeartbeats 4000000
namespace K39
open PySem PySem.Spec PyProof.Rows L2 Dn
/-! ### lists of numbers compared -/
theorem ints_lay : ∀ a : List Int, PyData.canLayAll0 (a.map .int) = true ∧ PyData.depthAll (a.map .int) ≤ 1
  | [] => by simp [PyData.canLayAll0, PyData.depthAll]
  | x :: a => by
    obtain ⟨h1, h2⟩ := ints_lay a
    refine ⟨by simp [PyData.canLayAll0, PyData.canLay0, h1], ?_⟩
    simp only [List.map_cons, PyData.depthAll, PyData.depth]
    omega
theorem ints_shaped (a : List Int) : SeqAt.shaped (.list (a.map .int)) = true ∧ SeqAt.shaped (.tuple (a.map .int)) = true := by
  obtain ⟨h1, h2⟩ := ints_lay a
  constructor <;> unfold SeqAt.shaped <;> rw [Bool.and_eq_true, decide_eq_true_eq] <;> refine ⟨?_, ?_⟩
  · simpa [PyData.canLay0] using h1
  · simp only [PyData.depth]; omega
  · simpa [PyData.canLay0] using h1
  · simp only [PyData.depth]; omega
theorem ints_eqv : ∀ a b : List Int, PyData.eqvAll (a.map .int) (b.map .int) = (a == b)
  | [], [] => rfl
  | [], _ :: _ => rfl
  | _ :: _, [] => rfl
  | x :: a, y :: b => by
    have := ints_eqv a b
    simp only [List.map_cons, PyData.eqvAll, PyData.eqv, this, List.cons_beq_cons]
theorem eq_ints (a b : List Int) : gEqA (.list (a.map .int)) (.list (b.map .int)) = some (.d (.bool (a == b))) := by
  have h : gEq (.list (a.map .int)) (.list (b.map .int)) = some (.d (.bool (a == b))) := by
    unfold gEq
    rw [(ints_shaped a).1, (ints_shaped b).1]
    simp only [Bool.and_self, if_true]
    congr 3
    simp only [PyData.eqv]
    exact ints_eqv a b
  unfold gEqA orE
  cases a with
  | nil => cases b <;> exact h
  | cons x a =>
    cases b with
    | nil => rfl
    | cons y b => exact h
theorem eq_int (a b : Int) : gEqA (.int a) (.int b) = some (.d (.bool (a == b))) := by
  simp [gEqA, orE, gEqX, gEq, SeqAt.shaped, PyData.canLay0, PyData.depth, PyData.eqv]
theorem ne_int2 (a b : Int) : gNeA (.int a) (.int b) = some (.d (.bool (!(a == b)))) := by
  simp [gNeA, orE, gNeX, gNe, SeqAt.shaped, PyData.canLay0, PyData.depth, PyData.eqv]
theorem ne_nil2 (xs : List PyData) : gNeA (.list xs) (.list []) = some (.d (.bool (!xs.isEmpty))) := by
  cases xs with
  | nil => exact ne_nil
  | cons x xs => rfl
theorem eq_nil : gEqA (.list []) (.list []) = some (.d (.bool true)) := eq_ints [] []
theorem eq_nil2 (xs : List PyData) : gEqA (.list xs) (.list []) = some (.d (.bool xs.isEmpty)) := by
  cases xs with
  | nil => exact eq_nil
  | cons x xs => rfl
/-! ### layers -/
def isInt : PyData → Bool
  | .int _ => true
  | _ => false
def isLayI (l : List Int) : Bool := decide (0 < l.length) && decide (l.length < 7) && (sortB leI l == (List.range l.length).map fun k : Nat => (k : Int))
def isLayD : PyData → Bool
  | .tuple xs => (match ints? xs with
    | some l => isLayI l
    | none => false)
  | _ => false
theorem ints_all : ∀ xs : List PyData, (xs.all isInt = true → ∃ l : List Int, xs = l.map .int)
  | [], _ => ⟨[], rfl⟩
  | x :: xs, h => by
    rw [List.all_cons, Bool.and_eq_true] at h
    obtain ⟨l, e⟩ := ints_all xs h.2
    cases x with
    | int i => exact ⟨i :: l, by rw [e]; rfl⟩
    | _ => exact absurd h.1 (by simp [isInt])
theorem ints_not : ∀ xs : List PyData, xs.all isInt = false → ints? xs = none
  | [], h => by simp at h
  | x :: xs, h => by
    cases x with
    | int i =>
      have h : xs.all isInt = false := by simpa [isInt] using h
      simp [ints?, ints_not xs h]
    | _ => rfl
theorem whole_ok (x : PyData) : F__law_whole [.d x] = .ok (.d (.bool (isInt x))) [.d x] := by cases x <;> rfl
theorem len_t (xs : List PyData) : gLen [.tuple xs] = some (.d (.int xs.length)) := rfl
theorem inner_whole (xs : List PyData) (hl : xs.length ≤ 1000) : dLc (iSeq (dSto (dVar 0))) [1] (pName 1) (dNot (dCall 1 F__law_whole (dCons (dSto (dVar 1)) dNil))) (dC (.int 1)) [.d (.tuple xs), .un] = .ok (.ow (.lst ((xs.filter fun x => !isInt x).map fun _ => .int 1))) [.d (.tuple xs), .un] :=
  dLc_pure (fun x => !isInt x) (fun _ => .int 1) (fun x => [.d (.tuple xs), .d x]) (iseq_t (sto_d (var_d rfl))) rfl rfl (fun x _ => ⟨rfl, not_d (call_d (as := [x]) rfl rfl (whole_ok x) rfl), fun _ => rfl, rfl⟩) (Nat.le_trans hl (Nat.le_trans (by omega) lim_ge))
theorem is_layers_ok (x : PyData) : F__law_is_layers [.d x] = .ok (.d (.bool (isLayD x))) [.d x] := by
  cases x with
  | tuple xs =>
    have hv : dCallB gLen (dCons (dVar 0) dNil) [.d (.tuple xs), .un] = .ok (.d (.int xs.length)) [.d (.tuple xs), .un] := callB1 (var_d rfl) rfl rfl
    have ht : dNot (dUn (gIsi .tup) (dVar 0)) [.d (.tuple xs), .un] = .ok (.d (.bool false)) [.d (.tuple xs), .un] := rfl
    have hc : dChain gLtA gLtA (dC (.int 0)) (dCallB gLen (dCons (dVar 0) dNil)) (dC (.int 7)) [.d (.tuple xs), .un] = .ok (.d (.bool (decide (0 < xs.length) && decide (xs.length < 7)))) [.d (.tuple xs), .un] := by
      have e1 : gLtA (.int 0) (.int xs.length) = some (.d (.bool (decide (0 < xs.length)))) := by
        show some (Rv.d (.bool (decide ((0 : Int) < xs.length)))) = _
        congr 3
        simp
      have e2 : gLtA (.int xs.length) (.int 7) = some (.d (.bool (decide (xs.length < 7)))) := by
        show some (Rv.d (.bool (decide ((xs.length : Int) < 7)))) = _
        congr 3
        simp; omega
      exact chain_b rfl hv rfl e1 e2
    have key : d__law_is_layers [.d (.tuple xs), .un] = .ret (.d (.bool (isLayD (.tuple xs)))) [.d (.tuple xs), .un] := by
      unfold d__law_is_layers
      by_cases hn : 0 < xs.length ∧ xs.length < 7
      · have hb : (decide (0 < xs.length) && decide (xs.length < 7)) = true := by simp [hn]
        rw [hb] at hc
        by_cases ha : xs.all isInt = true
        · obtain ⟨l, rfl⟩ := ints_all xs ha
          have hf : ((l.map PyData.int).filter fun x => !isInt x) = [] := by simp [isInt]
          have hw := inner_whole (l.map .int) (by omega)
          rw [hf] at hw
          have t1 : dBin gNeA (dLc (iSeq (dSto (dVar 0))) [1] (pName 1) (dNot (dCall 1 F__law_whole (dCons (dSto (dVar 1)) dNil))) (dC (.int 1))) (dLst dNil) [.d (.tuple (l.map .int)), .un] = .ok (.d (.bool false)) [.d (.tuple (l.map .int)), .un] := bin_d hw rfl rfl rfl ne_nil
          have t2 := (or_f (g := dOr (dNot (dChain gLtA gLtA (dC (.int 0)) (dCallB gLen (dCons (dVar 0) dNil)) (dC (.int 7)))) (dBin gNeA (dLc (iSeq (dSto (dVar 0))) [1] (pName 1) (dNot (dCall 1 F__law_whole (dCons (dSto (dVar 1)) dNil))) (dC (.int 1))) (dLst dNil))) ht).trans ((or_f (not_d hc)).trans t1)
          rw [seq_nx (if_fp t2)]
          have h5 : ints? (l.map PyData.int) = some l := ints_map l
          have h6 : gSorted [.tuple (l.map PyData.int)] = some (.ow (.lst ((sortB leI l).map .int))) := by
            unfold gSorted; simp only []; rw [h5]
          have h7 : dCallB gSorted (dCons (dVar 0) dNil) [.d (.tuple (l.map .int)), .un] = .ok (.ow (.lst ((sortB leI l).map .int))) [.d (.tuple (l.map .int)), .un] := callB1 (var_d rfl) rfl h6
          have h8 : Dn.intsFrom 0 (l.map PyData.int).length = ((List.range l.length).map fun k : Nat => (k : Int)).map PyData.int := by
            simp [Dn.intsFrom]
          have h9 := listRg1 hv (by omega)
          rw [h8] at h9
          have h10 : isLayD (.tuple (l.map .int)) = (sortB leI l == (List.range l.length).map fun k : Nat => (k : Int)) := by
            unfold isLayD; simp only []; rw [h5]; simp only []; unfold isLayI
            rw [List.length_map] at hb
            rw [hb, Bool.true_and]
          rw [h10]
          exact ret_d (bin_d h7 h9 rfl rfl (eq_ints _ _))
        · have ha : xs.all isInt = false := by simpa using ha
          have hne : ((xs.filter fun x => !isInt x).map fun _ => PyData.int 1).isEmpty = false := by
            cases hq : (xs.filter fun x => !isInt x) with
            | cons _ _ => rfl
            | nil =>
              rw [List.filter_eq_nil_iff] at hq
              have : xs.all isInt = true := List.all_eq_true.mpr fun x hx => by have := hq x hx; simpa using this
              rw [this] at ha; cases ha
          have hg := ne_nil2 ((xs.filter fun x => !isInt x).map fun _ => PyData.int 1)
          rw [hne] at hg
          have t1 : dBin gNeA (dLc (iSeq (dSto (dVar 0))) [1] (pName 1) (dNot (dCall 1 F__law_whole (dCons (dSto (dVar 1)) dNil))) (dC (.int 1))) (dLst dNil) [.d (.tuple xs), .un] = .ok (.d (.bool true)) [.d (.tuple xs), .un] := bin_d (inner_whole xs (by omega)) rfl rfl rfl hg
          have t2 := (or_f (g := dOr (dNot (dChain gLtA gLtA (dC (.int 0)) (dCallB gLen (dCons (dVar 0) dNil)) (dC (.int 7)))) (dBin gNeA (dLc (iSeq (dSto (dVar 0))) [1] (pName 1) (dNot (dCall 1 F__law_whole (dCons (dSto (dVar 1)) dNil))) (dC (.int 1))) (dLst dNil))) ht).trans ((or_f (not_d hc)).trans t1)
          have h10 : isLayD (.tuple xs) = false := by
            unfold isLayD; simp only []; rw [ints_not xs ha]
          rw [h10]
          exact seq_ret ((if_t t2).trans (ret_d rfl))
      · have hb : (decide (0 < xs.length) && decide (xs.length < 7)) = false := by
          rw [Bool.eq_false_iff]; intro h; exact hn (by simpa using h)
        rw [hb] at hc
        have t2 := (or_f (g := dOr (dNot (dChain gLtA gLtA (dC (.int 0)) (dCallB gLen (dCons (dVar 0) dNil)) (dC (.int 7)))) (dBin gNeA (dLc (iSeq (dSto (dVar 0))) [1] (pName 1) (dNot (dCall 1 F__law_whole (dCons (dSto (dVar 1)) dNil))) (dC (.int 1))) (dLst dNil))) ht).trans (or_t (not_d hc))
        have h10 : isLayD (.tuple xs) = false := by
          by_cases ha : xs.all isInt = true
          · obtain ⟨l, rfl⟩ := ints_all xs ha
            unfold isLayD; simp only []; rw [show ints? (l.map PyData.int) = some l from ints_map l]; simp only []; unfold isLayI
            rw [List.length_map] at hb
            rw [hb, Bool.false_and]
          · unfold isLayD; simp only []; rw [ints_not xs (by simpa using ha)]
        rw [h10]
        exact seq_ret ((if_t t2).trans (ret_d rfl))
    exact run_ret (g := d__law_is_layers) (n := 2) (as := [.d (.tuple xs)]) key
  | _ => rfl
end K39

set_option Elab.async false
set_option linter.all false
set_option maxRecDepth 100000
set_option maxHeartbeats 4000000
namespace K39
open PySem PySem.Spec PyProof.Rows L2 Dn
def wholeD : PyData → Bool
  | .int i => decide (-1000000000000 ≤ i) && decide (i ≤ 1000000000000)
  | _ => false
def betw (lo hi : Int) (x : PyData) : Bool := wholeD x && (match x with
  | .int i => decide (lo ≤ i) && decide (i ≤ hi)
  | _ => false)
theorem is_whole_ok (x : PyData) : F_is_whole [.d x] = .ok (.d (.bool (wholeD x))) [.d x] := by
  cases x with
  | int i =>
    have h : d_is_whole [.d (.int i)] = .ret (.d (.bool (wholeD (.int i)))) [.d (.int i)] := by
      unfold d_is_whole
      refine ret_d ?_
      rw [and_t (by rfl), and_t (by rfl)]
      exact chain_b rfl rfl rfl rfl rfl
    exact run_ret (g := d_is_whole) (n := 1) (as := [.d (.int i)]) h
  | _ => rfl
theorem betw_ok (x : PyData) (lo hi : Int) : F_is_whole_between [.d x, .d (.int lo), .d (.int hi)] = .ok (.d (.bool (betw lo hi x))) [.d x, .d (.int lo), .d (.int hi)] := by
  have h : d_is_whole_between [.d x, .d (.int lo), .d (.int hi)] = .ret (.d (.bool (betw lo hi x))) [.d x, .d (.int lo), .d (.int hi)] := by
    unfold d_is_whole_between
    refine ret_d ?_
    have h1 : dCall 1 F_is_whole (dCons (dSto (dVar 0)) dNil) [.d x, .d (.int lo), .d (.int hi)] = .ok (.d (.bool (wholeD x))) [.d x, .d (.int lo), .d (.int hi)] := call_d (as := [x]) rfl rfl (is_whole_ok x) rfl
    cases x with
    | int i => exact and_b h1 (chain_b rfl rfl rfl rfl rfl)
    | _ => exact and_f h1
  exact run_ret (g := d_is_whole_between) (n := 3) (as := [.d x, .d (.int lo), .d (.int hi)]) h
theorem bools_map (b : PyData → Bool) : ∀ xs : List PyData, bools? (xs.map fun x => .bool (b x)) = some (xs.map b)
  | [] => rfl
  | x :: xs => by simp [bools?, bools_map b xs]
theorem all_g (b : PyData → Bool) (xs : List PyData) : gAllB [.list (xs.map fun x => .bool (b x))] = some (.d (.bool (xs.all b))) := by
  unfold gAllB; simp only []; rw [bools_map]; simp
theorem any_g (b : PyData → Bool) (xs : List PyData) : gAnyB [.list (xs.map fun x => .bool (b x))] = some (.d (.bool (xs.any b))) := by
  unfold gAnyB; simp only []; rw [bools_map]; simp
theorem lay_mem {l : List Int} (h : isLayI l = true) : ∀ x ∈ l, 0 ≤ x ∧ x < l.length ∧ l.length < 7 := by
  unfold isLayI at h
  rw [Bool.and_eq_true, Bool.and_eq_true, decide_eq_true_eq, decide_eq_true_eq] at h
  obtain ⟨⟨h0, h7⟩, he⟩ := h
  have he := eq_of_beq he
  intro x hx
  have hx2 : x ∈ sortB leI l := (sortB_perm l).mem_iff.mpr hx
  rw [he, List.mem_map] at hx2
  obtain ⟨k, hk, rfl⟩ := hx2
  have := List.mem_range.mp hk
  omega
theorem are_layers_ok (x : PyData) : F_are_layers [.d x] = .ok (.d (.bool (isLayD x))) [.d x] := by
  cases x with
  | tuple xs =>
    have hv : dCallB gLen (dCons (dVar 0) dNil) [.d (.tuple xs), .un, .un] = .ok (.d (.int xs.length)) [.d (.tuple xs), .un, .un] := callB1 (var_d rfl) rfl rfl
    have ht : dNot (dUn (gIsi .tup) (dVar 0)) [.d (.tuple xs), .un, .un] = .ok (.d (.bool false)) [.d (.tuple xs), .un, .un] := rfl
    have e1 : gLeI (.int 1) (.int xs.length) = some (.d (.bool (decide (0 < xs.length)))) := by
      show some (Rv.d (.bool (decide ((1 : Int) ≤ xs.length)))) = _
      congr 3
      simp; omega
    have e2 : gLeI (.int xs.length) (.int c_MOST_PANELS) = some (.d (.bool (decide (xs.length < 7)))) := by
      show some (Rv.d (.bool (decide ((xs.length : Int) ≤ 6)))) = _
      congr 3
      simp; omega
    have hc : dChain gLeI gLeI (dC (.int 1)) (dCallB gLen (dCons (dVar 0) dNil)) (dC (.int c_MOST_PANELS)) [.d (.tuple xs), .un, .un] = .ok (.d (.bool (decide (0 < xs.length) && decide (xs.length < 7)))) [.d (.tuple xs), .un, .un] := chain_b rfl hv rfl e1 e2
    have h10 : (decide (0 < xs.length) && decide (xs.length < 7)) = false → isLayD (.tuple xs) = false := fun hb => by
      by_cases ha : xs.all isInt = true
      · obtain ⟨l, rfl⟩ := ints_all xs ha
        unfold isLayD; simp only []; rw [show ints? (l.map PyData.int) = some l from ints_map l]; simp only []; unfold isLayI
        rw [List.length_map] at hb
        rw [hb, Bool.false_and]
      · unfold isLayD; simp only []; rw [ints_not xs (by simpa using ha)]
    have t2 := (or_f (g := dNot (dChain gLeI gLeI (dC (.int 1)) (dCallB gLen (dCons (dVar 0) dNil)) (dC (.int c_MOST_PANELS)))) ht).trans (not_d hc)
    have key : ∃ s, d_are_layers [.d (.tuple xs), .un, .un] = .ret (.d (.bool (isLayD (.tuple xs)))) [.d (.tuple xs), s, .un] := by
      unfold d_are_layers
      cases hb : (decide (0 < xs.length) && decide (xs.length < 7)) with
      | false =>
        rw [hb] at t2
        rw [h10 hb]
        exact ⟨_, seq_ret ((if_t t2).trans (ret_d rfl))⟩
      | true =>
        rw [hb] at t2
        have hn : 0 < xs.length ∧ xs.length < 7 := by simpa using hb
        refine ⟨.d (.int xs.length), ?_⟩
        rw [seq_nx (if_fp t2), seq_nx (set_d (stb_d hv))]
        show dSeq _ _ [.d (.tuple xs), .d (.int xs.length), .un] = _
        have hl : dLc (iSeq (dSto (dVar 0))) [2] (pName 2) dYes (dSto (dCall 3 F_is_whole_between (dCons (dSto (dVar 2)) (dCons (dC (.int 0)) (dCons (dBin gSubI (dVar 1) (dC (.int 1))) dNil))))) [.d (.tuple xs), .d (.int xs.length), .un] = .ok (.ow (.lst ((xs.filter fun _ => true).map fun x => .bool (betw 0 (xs.length - 1) x)))) [.d (.tuple xs), .d (.int xs.length), .un] :=
          dLc_pure (fun _ => true) (fun x => .bool (betw 0 (xs.length - 1) x)) (fun x => [.d (.tuple xs), .d (.int xs.length), .d x]) (iseq_t (sto_d (var_d rfl))) rfl rfl (fun x _ => ⟨rfl, rfl, fun _ => sto_d (call_d (as := [x, .int 0, .int (xs.length - 1)]) rfl rfl (betw_ok x 0 (xs.length - 1)) rfl), rfl⟩) (Nat.le_trans (Nat.le_of_lt hn.2) (Nat.le_trans (by omega) lim_ge))
        rw [List.filter_eq_self.mpr (fun _ _ => rfl)] at hl
        have ha := not_d (callB1 hl rfl (all_g (betw 0 (xs.length - 1)) xs))
        cases hq : xs.all (betw 0 (xs.length - 1)) with
        | false =>
          rw [hq] at ha
          have hz : isLayD (.tuple xs) = false := by
            rw [Bool.eq_false_iff]
            intro hL
            unfold isLayD at hL
            simp only [] at hL
            cases hi : ints? xs with
            | none => rw [hi] at hL; cases hL
            | some l =>
              rw [hi] at hL
              simp only [] at hL
              have hxs : xs.all isInt = true := by
                cases hxx : xs.all isInt with
                | true => rfl
                | false => rw [ints_not xs hxx] at hi; cases hi
              obtain ⟨l', rfl⟩ := ints_all xs hxs
              rw [show ints? (l'.map PyData.int) = some l' from ints_map l'] at hi
              cases hi
              have hm := lay_mem hL
              have : (l.map PyData.int).all (betw 0 ((l.map PyData.int).length - 1)) = true := by
                rw [List.all_eq_true]
                intro x hx
                obtain ⟨i, hi, rfl⟩ := List.mem_map.mp hx
                obtain ⟨a1, a2, a3⟩ := hm i hi
                have a4 : ((l.map PyData.int).length : Int) = l.length := by simp
                simp only [betw, wholeD, Bool.and_eq_true, decide_eq_true_eq]
                omega
              rw [this] at hq
              cases hq
          rw [hz]
          exact seq_ret ((if_t ha).trans (ret_d rfl))
        | true =>
          rw [hq] at ha
          have hxs : xs.all isInt = true := by
            rw [List.all_eq_true] at hq ⊢
            intro x hx
            have := hq x hx
            cases x <;> first | rfl | simp [betw, wholeD] at this
          obtain ⟨l, rfl⟩ := ints_all xs hxs
          rw [seq_nx (if_fp ha)]
          have h5 : ints? (l.map PyData.int) = some l := ints_map l
          have h6 : gSorted [.tuple (l.map PyData.int)] = some (.ow (.lst ((sortB leI l).map .int))) := by
            unfold gSorted; simp only []; rw [h5]
          have h7 : dCallB gSorted (dCons (dVar 0) dNil) [.d (.tuple (l.map .int)), .d (.int (l.map PyData.int).length), .un] = .ok (.ow (.lst ((sortB leI l).map .int))) [.d (.tuple (l.map .int)), .d (.int (l.map PyData.int).length), .un] := callB1 (var_d rfl) rfl h6
          have h8 : Dn.intsFrom 0 (l.map PyData.int).length = ((List.range l.length).map fun k : Nat => (k : Int)).map PyData.int := by
            simp [Dn.intsFrom]
          have h9 := listRg1 (fa := dVar 1) (env := [.d (.tuple (l.map .int)), .d (.int (l.map PyData.int).length), .un]) (m := (l.map PyData.int).length) (var_d rfl) (by omega)
          rw [h8] at h9
          have h11 : isLayD (.tuple (l.map .int)) = (sortB leI l == (List.range l.length).map fun k : Nat => (k : Int)) := by
            unfold isLayD; simp only []; rw [h5]; simp only []; unfold isLayI
            rw [List.length_map] at hb
            rw [hb, Bool.true_and]
          rw [h11]
          exact ret_d (bin_d h7 h9 rfl rfl (eq_ints _ _))
    obtain ⟨s, key⟩ := key
    exact run_ret (g := d_are_layers) (n := 3) (as := [.d (.tuple xs)]) key
  | _ => rfl
end K39

set_option Elab.async false
set_option linter.all false
set_option maxRecDepth 100000
set_option maxHeartbeats 4000000
namespace K39
open PySem PySem.Spec PyProof.Rows L2 Dn
theorem mem_longer {n : Nat} {rows : List (List Int)} {l : List Int} : l ∈ longer n rows ↔ ∃ r ∈ rows, ∃ h : Nat, h < n ∧ (h : Int) ∉ r ∧ l = r ++ [(h : Int)] := by
  rw [longer_ext, List.mem_flatMap]
  constructor
  · rintro ⟨r, hr, hl⟩
    unfold ext at hl
    obtain ⟨h, hh, rfl⟩ := List.mem_map.mp hl
    rw [List.mem_filter, List.mem_range] at hh
    exact ⟨r, hr, h, hh.1, by simpa using hh.2, rfl⟩
  · rintro ⟨r, hr, h, h1, h2, rfl⟩
    refine ⟨r, hr, ?_⟩
    unfold ext
    exact List.mem_map.mpr ⟨h, by rw [List.mem_filter, List.mem_range]; exact ⟨h1, by simpa using h2⟩, rfl⟩
theorem mem_rowsN (n : Nat) : ∀ (k : Nat) (l : List Int), l ∈ rowsN n k ↔ l.length = k ∧ l.Nodup ∧ ∀ x ∈ l, ∃ h : Nat, h < n ∧ x = h
  | 0, l => by
    show l ∈ [[]] ↔ _
    rw [List.mem_singleton, List.length_eq_zero_iff]
    constructor
    · rintro rfl; exact ⟨rfl, List.nodup_nil, by simp⟩
    · exact fun h => h.1
  | k + 1, l => by
    show l ∈ longer n (rowsN n k) ↔ _
    rw [mem_longer]
    constructor
    · rintro ⟨r, hr, h, h1, h2, rfl⟩
      obtain ⟨a, b, c⟩ := (mem_rowsN n k r).mp hr
      refine ⟨by simp [a], ?_, ?_⟩
      · rw [List.nodup_append]
        refine ⟨b, by simp, fun x hx y hy e => ?_⟩
        rw [List.mem_singleton] at hy
        rw [e, hy] at hx
        exact h2 hx
      · intro x hx
        rw [List.mem_append, List.mem_singleton] at hx
        rcases hx with hx | rfl
        · exact c x hx
        · exact ⟨h, h1, rfl⟩
    · rintro ⟨a, b, c⟩
      rcases List.eq_nil_or_concat l with rfl | ⟨r, x, rfl⟩
      · simp at a
      · rw [List.concat_eq_append] at *
        rw [List.nodup_append] at b
        obtain ⟨h, h1, rfl⟩ := c x (by simp)
        refine ⟨r, (mem_rowsN n k r).mpr ⟨by simpa using a, b.1, fun y hy => c y (by simp [hy])⟩, h, h1, fun hx => b.2.2 _ hx _ (by simp) rfl, rfl⟩
theorem lay_ords {l : List Int} (h : isLayI l = true) : 1 ≤ l.length ∧ l.length ≤ 6 ∧ l ∈ ords l.length := by
  have hm := lay_mem h
  unfold isLayI at h
  rw [Bool.and_eq_true, Bool.and_eq_true, decide_eq_true_eq, decide_eq_true_eq] at h
  obtain ⟨⟨h0, h7⟩, he⟩ := h
  have he := eq_of_beq he
  refine ⟨by omega, by omega, (mem_rowsN _ _ _).mpr ⟨rfl, ?_, ?_⟩⟩
  · have p := (sortB_perm (le := leI) l)
    rw [he] at p
    rw [← p.nodup_iff]
    exact List.pairwise_map.mpr (List.nodup_range.imp fun h e => h (by omega))
  · intro x hx
    obtain ⟨a, b, c⟩ := hm x hx
    exact ⟨x.toNat, by omega, by omega⟩
theorem lay1 : (ords 1).all isLayI = true := by kernel_rfl
theorem lay2 : (ords 2).all isLayI = true := by kernel_rfl
theorem lay3 : (ords 3).all isLayI = true := by kernel_rfl
theorem lay4 : (ords 4).all isLayI = true := by kernel_rfl
theorem lay5 : (ords 5).all isLayI = true := by kernel_rfl
theorem lay6 : (ords 6).all isLayI = true := by kernel_rfl
theorem take_all {α : Type} {p : α → Bool} (n k : Nat) {xs : List α} (h : ((xs.drop k).take n).all p = true) (h2 : (xs.drop (k + n)).all p = true) : (xs.drop k).all p = true := by
  rw [← List.take_append_drop n (xs.drop k), List.all_append, h, List.drop_drop, h2]; rfl
theorem c6 : (ords 6).all chkAll = true := by
  have h0 : ((ords 6).drop 720).all chkAll = true := by
    have : (ords 6).length = 720 := by kernel_rfl
    rw [List.drop_eq_nil_of_le (by omega)]; rfl
  exact take_all 120 0 c60 (take_all 120 120 c61 (take_all 120 240 c62 (take_all 120 360 c63 (take_all 120 480 c64 (take_all 120 600 c65 h0)))))
theorem six {P : Nat → Prop} (h1 : P 1) (h2 : P 2) (h3 : P 3) (h4 : P 4) (h5 : P 5) (h6 : P 6) {m : Nat} (a : 1 ≤ m) (b : m ≤ 6) : P m := by
  have : m = 1 ∨ m = 2 ∨ m = 3 ∨ m = 4 ∨ m = 5 ∨ m = 6 := by omega
  rcases this with rfl | rfl | rfl | rfl | rfl | rfl <;> assumption
theorem ords_chk {m : Nat} (a : 1 ≤ m) (b : m ≤ 6) : ∀ l ∈ ords m, chkAll l = true ∧ isLayI l = true :=
  six (P := fun m => ∀ l ∈ ords m, chkAll l = true ∧ isLayI l = true) (fun l h => ⟨List.all_eq_true.mp c1 l h, List.all_eq_true.mp lay1 l h⟩) (fun l h => ⟨List.all_eq_true.mp c2 l h, List.all_eq_true.mp lay2 l h⟩) (fun l h => ⟨List.all_eq_true.mp c3 l h, List.all_eq_true.mp lay3 l h⟩) (fun l h => ⟨List.all_eq_true.mp c4 l h, List.all_eq_true.mp lay4 l h⟩) (fun l h => ⟨List.all_eq_true.mp c5 l h, List.all_eq_true.mp lay5 l h⟩) (fun l h => ⟨List.all_eq_true.mp c6 l h, List.all_eq_true.mp lay6 l h⟩) a b
theorem chkB_of {F : Fn} {l : List Int} {b : Bool} (h : chkB F l b = true) : ∃ s, F [.d (tupI l)] = .ok (.d (.bool b)) [.d s] := by
  unfold chkB at h
  split at h
  · rename_i c s e
    rw [e, eq_of_beq h]; exact ⟨s, rfl⟩
  · cases h
theorem pairs_of : ∀ {ds : List PyData} {ps : List (Int × Int)}, pairs? ds = some ps → ds = ps.map ofPair
  | [], _, h => by cases h; rfl
  | d :: ds, ps, h => by
    unfold pairs? at h
    split at h
    · rename_i e; cases e
    · rename_i i j r' e
      cases e
      cases hp : pairs? ds with
      | none => rw [hp] at h; cases h
      | some q => rw [hp] at h; cases h; rw [pairs_of hp]; rfl
    · cases h
theorem chkP_of {F : Fn} {l : List Int} {ps : List (Int × Int)} (h : chkP F l ps = true) : ∃ s, F [.d (tupI l)] = .ok (.d (.tuple (ps.map ofPair))) [.d s] := by
  unfold chkP at h
  split at h
  · rename_i ds s e
    rw [e, pairs_of (eq_of_beq h)]; exact ⟨s, rfl⟩
  · cases h
structure Lay (l : List Int) : Prop where
  flat : ∃ s, F__law_is_flat [.d (tupI l)] = .ok (.d (.bool (flatI l))) [.d s]
  cross : ∃ s, F_has_crossing [.d (tupI l)] = .ok (.d (.bool (!flatI l))) [.d s]
  face : ∃ s, F__law_facing [.d (tupI l)] = .ok (.d (.tuple ((faceI l).map ofPair))) [.d s]
  face2 : ∃ s, F_facing [.d (tupI l)] = .ok (.d (.tuple ((faceI l).map ofPair))) [.d s]
  lay : isLayI l = true
theorem ords_lay {m : Nat} (a : 1 ≤ m) (b : m ≤ 6) {l : List Int} (h : l ∈ ords m) : Lay l := by
  obtain ⟨h1, h2⟩ := ords_chk a b l h
  unfold chkAll at h1
  rw [Bool.and_eq_true, Bool.and_eq_true, Bool.and_eq_true] at h1
  exact ⟨chkB_of h1.1, chkB_of h1.2.1, chkP_of h1.2.2.1, chkP_of h1.2.2.2, h2⟩
theorem layD_cases {x : PyData} (h : isLayD x = true) : ∃ l, x = tupI l ∧ Lay l := by
  unfold isLayD at h
  split at h
  · rename_i xs
    cases hi : ints? xs with
    | none => rw [hi] at h; cases h
    | some l =>
      rw [hi] at h
      simp only [] at h
      have hxs : xs.all isInt = true := by
        cases hxx : xs.all isInt with
        | true => rfl
        | false => rw [ints_not xs hxx] at hi; cases hi
      obtain ⟨l', rfl⟩ := ints_all xs hxs
      rw [show ints? (l'.map PyData.int) = some l' from ints_map l'] at hi
      cases hi
      obtain ⟨a, b, c⟩ := lay_ords h
      exact ⟨_, rfl, ords_lay a b c⟩
  · cases h
theorem layD_tup {l : List Int} (h : isLayI l = true) : isLayD (tupI l) = true := by
  unfold isLayD tupI; simp only []; rw [show ints? (l.map PyData.int) = some l from ints_map l]; exact h
theorem is_fold_t {l : List Int} (h : Lay l) : F_is_fold [.d (tupI l)] = .ok (.d (.bool (flatI l))) [.d (tupI l)] := by
  obtain ⟨s, hc⟩ := h.cross
  have e : d_is_fold [.d (tupI l)] = .ret (.d (.bool (flatI l))) [.d (tupI l)] := by
    unfold d_is_fold
    refine ret_d ?_
    have h1 : dCall 1 F_are_layers (dCons (dSto (dVar 0)) dNil) [.d (tupI l)] = .ok (.d (.bool true)) [.d (tupI l)] := call_d (as := [tupI l]) rfl rfl ((are_layers_ok (tupI l)).trans (by rw [layD_tup h.lay])) rfl
    rw [and_t h1]
    have h2 := not_d (call_d (fr := dCons (dSto (dVar 0)) dNil) (env := [.d (tupI l)]) (as := [tupI l]) rfl rfl hc rfl)
    rw [Bool.not_not] at h2
    exact h2
  exact run_ret (g := d_is_fold) (n := 1) (as := [.d (tupI l)]) e
theorem is_fold_f {x : PyData} (h : isLayD x = false) : F_is_fold [.d x] = .ok (.d (.bool false)) [.d x] := by
  have e : d_is_fold [.d x] = .ret (.d (.bool false)) [.d x] := by
    unfold d_is_fold
    refine ret_d ?_
    have h1 : dCall 1 F_are_layers (dCons (dSto (dVar 0)) dNil) [.d x] = .ok (.d (.bool false)) [.d x] := call_d (as := [x]) rfl rfl ((are_layers_ok x).trans (by rw [h])) rfl
    exact and_f h1
  exact run_ret (g := d_is_fold) (n := 1) (as := [.d x]) e
theorem facing_f {x : PyData} (h : isLayD x = false) : F_facing [.d x] = .exc "BadLayers" x := by
  have h1 : dCall 1 F_are_layers (dCons (dSto (dVar 0)) dNil) [.d x, .un, .un, .un, .un] = .ok (.d (.bool false)) [.d x, .un, .un, .un, .un] := call_d (as := [x]) rfl rfl ((are_layers_ok x).trans (by rw [h])) rfl
  have e : d_facing [.d x, .un, .un, .un, .un] = .exc "BadLayers" x [.d x, .un, .un, .un, .un] := by
    unfold d_facing
    exact seq_exc ((if_t (not_d h1)).trans rfl)
  exact run_exc (g := d_facing) (n := 5) (as := [.d x]) e rfl
end K39

set_option Elab.async false
set_option linter.all false
set_option maxRecDepth 100000
set_option maxHeartbeats 4000000
namespace K39
open PySem PySem.Spec PyProof.Rows L2 Dn
def getI (l : List Int) (i : Int) : Int := l.getD i.toNat 0
theorem ix_ok {l : List Int} {i : Int} (h0 : 0 ≤ i) (h1 : i < l.length) : gIx (tupI l) (.int i) = some (.d (.int (getI l i))) := by
  have h2 : i.toNat < l.length := by omega
  unfold gIx tupI; simp only []
  unfold atI ixN
  rw [List.length_map, if_pos h0, if_pos h1]
  simp only [Option.bind_some, List.getElem?_map, List.getElem?_eq_getElem h2, Option.map_some, getI, List.getD_eq_getElem?_getD, Option.getD_some]
def ltP (p q : Int × Int) : Prop := p.1 < q.1 ∨ (p.1 = q.1 ∧ p.2 < q.2)
theorem lex_ltP (p q : Int × Int) : HT.lexLt [p.1, p.2] [q.1, q.2] = true ↔ ltP p q := by
  unfold ltP
  rw [HT.lexLt_cons]
  by_cases h : p.1 = q.1
  · rw [if_pos h, HT.lexLt_cons]
    by_cases h2 : p.2 = q.2
    · rw [if_pos h2, HT.lexLt_nil_nil]; constructor
      · intro z; cases z
      · omega
    · rw [if_neg h2, decide_eq_true_eq]; omega
  · rw [if_neg h, decide_eq_true_eq]; omega
structure Above (m : Nat) (ps : List (Int × Int)) : Prop where
  inr : ∀ p ∈ ps, 0 ≤ p.1 ∧ p.1 < m ∧ 0 ≤ p.2 ∧ p.2 < m ∧ p.1 ≠ p.2
  srt : ps.Pairwise ltP
  len : ps.length ≤ m * m
theorem gt_int (a b : Int) : gGtI (.int a) (.int b) = some (.d (.bool (decide (b < a)))) := rfl
abbrev tupP (ps : List (Int × Int)) : PyData := .tuple (ps.map ofPair)
theorem bin_s {g : PyData → PyData → Option Rv} {fa fb : De} {env : List Sl} {x y : PyData} {r : Rv} (h1 : fa env = .ok (.d x) env) (h2 : fb env = .ok (.d y) env) (hg : g x y = some r) : dBin g fa fb env = .ok r env := bin_d h1 h2 rfl rfl hg
theorem is_tup2 (p : Int × Int) : F_is_tuple_of [.d (ofPair p), .d (.int 2)] = .ok (.d (.bool true)) [.d (ofPair p), .d (.int 2)] := by
  obtain ⟨a, b⟩ := p
  kernel_rfl
theorem ia_pair (m : Nat) (s1 s3 s4 : Sl) (p : Int × Int) (h : 0 ≤ p.1 ∧ p.1 < m ∧ 0 ≤ p.2 ∧ p.2 < m ∧ p.1 ≠ p.2) (hm : m ≤ 6) : ia_b [.d (.int m), s1, .d (ofPair p), s3, s4, .un] = .nx [.d (.int m), s1, .d (ofPair p), s3, s4, .un] := by
  have t1 : dNot (dCall 2 F_is_tuple_of (dCons (dSto (dVar 2)) (dCons (dC (.int 2)) dNil))) [.d (.int m), s1, .d (ofPair p), s3, s4, .un] = .ok (.d (.bool false)) [.d (.int m), s1, .d (ofPair p), s3, s4, .un] :=
    not_t (call_d (as := [ofPair p, .int 2]) rfl rfl (is_tup2 p) rfl)
  have hc : ia_c [.d (.int m), s1, .d (ofPair p), s3, s4, .un] = .ok (.ow (.lst (([.int p.1, .int p.2].filter fun _ => true).map fun x => .bool (betw 0 (m - 1) x)))) [.d (.int m), s1, .d (ofPair p), s3, s4, .un] := by
    unfold ia_c
    exact dLc_pure (xs := [.int p.1, .int p.2]) (fun _ => true) (fun x => .bool (betw 0 (m - 1) x)) (fun x => [.d (.int m), s1, .d (ofPair p), s3, s4, .d x]) (iseq_t (sto_d (var_d rfl))) rfl rfl (fun x _ => ⟨rfl, rfl, fun _ => sto_d (call_d (as := [x, .int 0, .int (m - 1)]) rfl rfl (betw_ok x 0 (m - 1)) rfl), rfl⟩) (by unfold lim; simp)
  have ha := callB1 hc rfl (all_g (betw 0 (m - 1)) _)
  have hb : ([.int p.1, .int p.2] : List PyData).all (betw 0 ((m : Int) - 1)) = true := by
    have b1 : betw 0 ((m : Int) - 1) (.int p.1) = true := by
      simp only [betw, wholeD, Bool.and_eq_true, decide_eq_true_eq]
      omega
    have b2 : betw 0 ((m : Int) - 1) (.int p.2) = true := by
      simp only [betw, wholeD, Bool.and_eq_true, decide_eq_true_eq]
      omega
    simp [b1, b2]
  rw [List.filter_eq_self.mpr (fun _ _ => rfl), hb] at ha
  have t2 := (or_f t1).trans (not_t ha)
  have t3 : dBin gEqA (dBin gIx (dVar 2) (dC (.int 0))) (dBin gIx (dVar 2) (dC (.int 1))) [.d (.int m), s1, .d (ofPair p), s3, s4, .un] = .ok (.d (.bool false)) [.d (.int m), s1, .d (ofPair p), s3, s4, .un] := by
    have e := eq_int p.1 p.2
    rw [show (p.1 == p.2) = false by simpa using h.2.2.2.2] at e
    exact bin_s (x := .int p.1) (y := .int p.2) (bin_s rfl rfl rfl) (bin_s rfl rfl rfl) e
  unfold ia_b
  rw [seq_nx (if_fp t2)]
  exact if_fp t3
theorem cut1 (xs : List PyData) (h : xs.length ≤ 1000) : Dn.cutD xs (some 1) none = xs.drop 1 := by
  have a1 : HT.sIx xs.length 0 (some 1) = min 1 xs.length := HT.sIx_nat _ _ 1
  have a2 : HT.sIx xs.length xs.length none = xs.length := rfl
  unfold Dn.cutD
  rw [a1, a2]
  cases xs with
  | nil => rfl
  | cons x xs => simp
theorem zip_lt : ∀ {ps : List (Int × Int)}, ps.Pairwise ltP → ∀ x ∈ zipD (ps.map ofPair) ((ps.map ofPair).drop 1), ∃ p q, x = .tuple [ofPair p, ofPair q] ∧ ltP p q
  | [], _, x, h => by simp [zipD] at h
  | [p], _, x, h => by simp [zipD] at h
  | p :: q :: ps, hp, x, h => by
    have h : x ∈ .tuple [ofPair p, ofPair q] :: zipD ((q :: ps).map ofPair) (((q :: ps).map ofPair).drop 1) := h
    rcases List.mem_cons.mp h with rfl | h
    · exact ⟨p, q, rfl, (List.pairwise_cons.mp hp).1 q (by simp)⟩
    · exact zip_lt (List.pairwise_cons.mp hp).2 x h
theorem is_above_ok {m : Nat} {ps : List (Int × Int)} (h : Above m ps) (hm : m ≤ 6) : F_is_above [.d (.int m), .d (tupP ps)] = .ok (.d (.bool true)) [.d (.int m), .d (tupP ps)] := by
  have hl : ps.length ≤ 36 := Nat.le_trans h.len (Nat.mul_le_mul hm hm)
  have e0 : ia_0 [.d (.int m), .d (tupP ps), .un, .un, .un, .un] = .nx [.d (.int m), .d (tupP ps), .un, .un, .un, .un] := by
    have g1 : gMulI (.int m) (.int m) = some (.d (.int (m * m))) := by
      have : ((-18446744073709551616 : Int) < m) ∧ ((m : Int) < 18446744073709551616) := by omega
      unfold gMulI bOk; simp only []
      rw [if_pos (by simp; omega)]
    have g2 : gGtI (.int (ps.map ofPair).length) (.int (m * m)) = some (.d (.bool false)) := by
      have e : decide (((m : Int) * m) < ((ps.map ofPair).length : Int)) = false := by
        rw [decide_eq_false_iff_not, List.length_map, Int.not_lt]
        have := h.len
        exact_mod_cast this
      rw [gt_int, e]
    have t : dBin gGtI (dCallB gLen (dCons (dVar 1) dNil)) (dBin gMulI (dVar 0) (dVar 0)) [.d (.int m), .d (tupP ps), .un, .un, .un, .un] = .ok (.d (.bool false)) [.d (.int m), .d (tupP ps), .un, .un, .un, .un] := bin_s (callB1 (var_d rfl) rfl rfl) (bin_s rfl rfl g1) g2
    unfold ia_0
    exact if_fp ((or_f rfl).trans t)
  have e1 : ∀ ps0 : List (Int × Int), (∀ p ∈ ps0, p ∈ ps) → ∀ s2, ∃ s2', forD (pName 2) ia_b (ps0.map ofPair) [.d (.int m), .d (tupP ps), s2, .un, .un, .un] = .nx [.d (.int m), .d (tupP ps), s2', .un, .un, .un] := by
    intro ps0
    induction ps0 with
    | nil => exact fun _ s2 => ⟨s2, rfl⟩
    | cons p ps0 ih =>
      intro hs s2
      obtain ⟨s2', e⟩ := ih (fun p hp => hs p (by simp [hp])) (.d (ofPair p))
      exact ⟨s2', (for_cons (e := [.d (.int m), .d (tupP ps), .d (ofPair p), .un, .un, .un]) rfl (ia_pair m _ .un .un p (h.inr p (hs p (by simp))) hm)).trans e⟩
  obtain ⟨s2, e1⟩ := e1 ps (fun _ h => h) .un
  have e2 : ia_f [.d (.int m), .d (tupP ps), .un, .un, .un, .un] = .nx [.d (.int m), .d (tupP ps), s2, .un, .un, .un] := by
    unfold ia_f
    exact (for_d (iseq_t (sto_d (var_d rfl)))).trans e1
  have e3 : ia_z [.d (.int m), .d (tupP ps), s2, .un, .un, .un] = .ok (.ow (.lst (((zipD (ps.map ofPair) ((ps.map ofPair).drop 1)).filter fun _ => true).map fun _ => .bool true))) [.d (.int m), .d (tupP ps), s2, .un, .un, .un] := by
    have hz : iZip (dSto (dVar 1)) (dSto (dSlice (dVar 1) (oSome (dC (.int 1))) oNo)) [.d (.int m), .d (tupP ps), s2, .un, .un, .un] = .ok (zipD (ps.map ofPair) ((ps.map ofPair).drop 1)) [.d (.int m), .d (tupP ps), s2, .un, .un, .un] := by
      have := cut1 (ps.map ofPair) (by simp; omega)
      rw [← this]; rfl
    unfold ia_z
    refine dLc_pure (fun _ => true) (fun _ => .bool true) (fun x => match x with | .tuple [a, b] => [.d (.int m), .d (tupP ps), s2, .d a, .d b, .un] | _ => []) hz rfl rfl (fun x hx => ?_) ?_
    · obtain ⟨p, q, rfl, hpq⟩ := zip_lt h.srt x hx
      refine ⟨rfl, rfl, fun _ => ?_, rfl⟩
      have g : gLtA (ofPair p) (ofPair q) = some (.d (.bool true)) := by
        show some (Rv.d (.bool (HT.lexLt [p.1, p.2] [q.1, q.2]))) = _
        rw [(lex_ltP p q).mpr hpq]
      exact bin_s rfl rfl g
    · have : (zipD (ps.map ofPair) ((ps.map ofPair).drop 1)).length ≤ 1000 := by unfold zipD; simp; omega
      exact Nat.le_trans this (Nat.le_trans (by omega) lim_ge)
  have e4 : ia_r [.d (.int m), .d (tupP ps), s2, .un, .un, .un] = .ret (.d (.bool true)) [.d (.int m), .d (tupP ps), s2, .un, .un, .un] := by
    have hb := all_g (fun _ => true) (zipD (ps.map ofPair) ((ps.map ofPair).drop 1))
    rw [show (zipD (ps.map ofPair) ((ps.map ofPair).drop 1)).all (fun _ => true) = true by simp] at hb
    rw [List.filter_eq_self.mpr (fun _ _ => rfl)] at e3
    unfold ia_r
    exact ret_d (callB1 e3 rfl hb)
  have e5 : d_is_above [.d (.int m), .d (tupP ps), .un, .un, .un, .un] = .ret (.d (.bool true)) [.d (.int m), .d (tupP ps), s2, .un, .un, .un] := by
    rw [d_is_above_def, seq_nx e0, seq_nx e2, e4]
  exact run_ret (g := d_is_above) (n := 6) (as := [.d (.int m), .d (tupP ps)]) e5
theorem need_strip_ok {m : Nat} {ps : List (Int × Int)} (h : Above m ps) (h1 : 1 ≤ m) (hm : m ≤ 6) : F_need_strip [.d (.int m), .d (tupP ps)] = .ok (.d .none) [.d (.int m), .d (tupP ps)] := by
  have e1 : dNot (dCall 3 F_is_whole_between (dCons (dSto (dVar 0)) (dCons (dC (.int 1)) (dCons (dSto (dC (.int c_MOST_PANELS))) dNil)))) [.d (.int m), .d (tupP ps)] = .ok (.d (.bool false)) [.d (.int m), .d (tupP ps)] := by
    have hb : betw 1 6 (.int m) = true := by
      simp only [betw, wholeD, Bool.and_eq_true, decide_eq_true_eq]; omega
    have := betw_ok (.int m) 1 6
    rw [hb] at this
    exact not_t (call_d (as := [.int m, .int 1, .int 6]) rfl rfl this rfl)
  have e2 : dNot (dCall 2 F_is_above (dCons (dSto (dVar 0)) (dCons (dSto (dVar 1)) dNil))) [.d (.int m), .d (tupP ps)] = .ok (.d (.bool false)) [.d (.int m), .d (tupP ps)] := not_t (call_d (as := [.int m, tupP ps]) rfl rfl (is_above_ok h hm) rfl)
  have e3 : d_need_strip [.d (.int m), .d (tupP ps)] = .nx [.d (.int m), .d (tupP ps)] := by
    unfold d_need_strip
    rw [seq_nx (if_fp e1)]
    exact if_fp e2
  exact run_nx (g := d_need_strip) (n := 2) (as := [.d (.int m), .d (tupP ps)]) e3
def gtAll (l : List Int) (ps : List (Int × Int)) : Bool := ps.all fun p => decide (getI l p.2 < getI l p.1)
def foldsP (m : Nat) (ps : List (Int × Int)) : List (List Int) := (ords m).filter fun l => gtAll l ps && flatI l
theorem fo_row {m : Nat} {ps : List (Int × Int)} (h : Above m ps) (h1 : 1 ≤ m) (hm : m ≤ 6) (acc : List PyData) (ha : acc.length ≤ 100000) {l : List Int} (hl : l ∈ ords m) :
    fo_b [.d (.int m), .d (tupP ps), .ow (.lst acc), .d (tupI l), .un, .un] = .nx [.d (.int m), .d (tupP ps), .ow (.lst (acc ++ if gtAll l ps && flatI l then [tupI l] else [])), .d (tupI l), .un, .un] := by
  have hps : ps.length ≤ 36 := Nat.le_trans h.len (Nat.mul_le_mul hm hm)
  have hlen : l.length = m := rowsN_row m m l hl
  obtain ⟨s, hc⟩ := (ords_lay h1 hm hl).cross
  have e1 : fo_all [.d (.int m), .d (tupP ps), .ow (.lst acc), .d (tupI l), .un, .un] = .ok (.ow (.lst (((ps.map ofPair).filter fun _ => true).map fun x => match x with | .tuple [.int i, .int j] => .bool (decide (getI l j < getI l i)) | _ => .none))) [.d (.int m), .d (tupP ps), .ow (.lst acc), .d (tupI l), .un, .un] := by
    unfold fo_all
    refine dLc_pure (fun _ => true) _ (fun x => match x with | .tuple [a, b] => [.d (.int m), .d (tupP ps), .ow (.lst acc), .d (tupI l), .d a, .d b] | _ => []) (iseq_t (sto_d (var_d rfl))) rfl rfl (fun x hx => ?_) (by rw [List.length_map]; exact Nat.le_trans hps (Nat.le_trans (by omega) lim_ge))
    obtain ⟨p, hp, rfl⟩ := List.mem_map.mp hx
    have hr := h.inr p hp
    refine ⟨rfl, rfl, fun _ => ?_, rfl⟩
    exact bin_s (x := .int (getI l p.1)) (y := .int (getI l p.2)) (bin_s rfl rfl (ix_ok (by omega) (by omega))) (bin_s rfl rfl (ix_ok (by omega) (by omega))) rfl
  have e2 : gAllB [.list ((((ps.map ofPair).filter fun _ => true).map fun x => match x with | .tuple [.int i, .int j] => .bool (decide (getI l j < getI l i)) | _ => .none))] = some (.d (.bool (gtAll l ps))) := by
    rw [List.filter_eq_self.mpr (fun _ _ => rfl), List.map_map]
    have : ∀ qs : List (Int × Int), bools? (qs.map ((fun x => match x with | .tuple [.int i, .int j] => .bool (decide (getI l j < getI l i)) | _ => .none) ∘ ofPair)) = some (qs.map fun p => decide (getI l p.2 < getI l p.1)) := fun qs => by
      induction qs with
      | nil => rfl
      | cons q qs ih => simp only [List.map_cons, Function.comp_apply, ofPair, bools?, ih, Option.map_some]
    unfold gAllB; simp only []; rw [this]
    simp [gtAll, List.all_map, Function.comp_def]
  have e3 := callB1 e1 rfl e2
  have e4 := not_d (call_d (np := 1) (fr := dCons (dSto (dVar 3)) dNil) (env := [.d (.int m), .d (tupP ps), .ow (.lst acc), .d (tupI l), .un, .un]) (as := [tupI l]) rfl rfl hc rfl)
  rw [Bool.not_not] at e4
  have e5 := and_b e3 e4
  unfold fo_b
  cases hq : (gtAll l ps && flatI l) with
  | false =>
    rw [hq] at e5
    rw [if_fp e5]
    simp
  | true =>
    rw [hq] at e5
    rw [if_t e5]
    refine drop_d (r := .d .none) (meth_d rfl (cons1 (sto_d (var_d rfl))) rfl ?_)
    show (if acc.length < lim then _ else _) = _
    rw [if_pos (Nat.lt_of_le_of_lt ha (Nat.lt_of_lt_of_le (by omega) lim_ge))]
    rfl
theorem folds_of_ok {m : Nat} {ps : List (Int × Int)} (h : Above m ps) (h1 : 1 ≤ m) (hm : m ≤ 6) : F_folds_of [.d (.int m), .d (tupP ps)] = .ok (.ow (.lst ((foldsP m ps).map tupI))) [.d (.int m), .d (tupP ps)] := by
  have hlen : (ords m).length ≤ 50000 := by
    have a := rowsN_len m m
    have b : m ^ m ≤ 6 ^ m := Nat.pow_le_pow_left hm m
    have c : 6 ^ m ≤ 6 ^ 6 := Nat.pow_le_pow_right (by decide) hm
    exact Nat.le_trans a (Nat.le_trans b (Nat.le_trans c (by decide)))
  have e1 : ∀ (rows : List (List Int)) (acc : List PyData) (s3 : Sl), (∀ l ∈ rows, l ∈ ords m) → acc.length + rows.length ≤ 100000 → ∃ s3', forD (pName 3) fo_b (rows.map tupI) [.d (.int m), .d (tupP ps), .ow (.lst acc), s3, .un, .un] = .nx [.d (.int m), .d (tupP ps), .ow (.lst (acc ++ (rows.filter fun l => gtAll l ps && flatI l).map tupI)), s3', .un, .un] := by
    intro rows
    induction rows with
    | nil => intro acc s3 _ _; exact ⟨s3, by simp [forD]⟩
    | cons l rows ih =>
      intro acc s3 hr hl
      rw [List.length_cons] at hl
      obtain ⟨s3', e⟩ := ih (acc ++ if gtAll l ps && flatI l then [tupI l] else []) (.d (tupI l)) (fun z hz => hr z (by simp [hz])) (by split <;> simp <;> omega)
      refine ⟨s3', (for_cons (e := [.d (.int m), .d (tupP ps), .ow (.lst acc), .d (tupI l), .un, .un]) rfl (fo_row h h1 hm acc (by omega) (hr l (by simp)))).trans ?_⟩
      rw [e, List.filter_cons]
      cases hq : (gtAll l ps && flatI l) <;> simp
  obtain ⟨s3, e1⟩ := e1 (ords m) [] .un (fun _ h => h) (by simp; omega)
  have e2 : d_folds_of [.d (.int m), .d (tupP ps), .un, .un, .un, .un] = .ret (.bo 2) [.d (.int m), .d (tupP ps), .ow (.lst ((foldsP m ps).map tupI)), s3, .un, .un] := by
    have a1 : dSet 2 (dStb (dLst dNil)) [.d (.int m), .d (tupP ps), .un, .un, .un, .un] = .nx [.d (.int m), .d (tupP ps), .ow (.lst []), .un, .un, .un] := rfl
    have a2 : iSeq (dSto (dCall 1 F_rows_of_heights (dCons (dSto (dVar 0)) dNil))) [.d (.int m), .d (tupP ps), .ow (.lst []), .un, .un, .un] = .ok ((ords m).map tupI) [.d (.int m), .d (tupP ps), .ow (.lst []), .un, .un, .un] := iseq_l (sto_ow (call_d (as := [.int m]) rfl rfl (rows_ok m hm) rfl))
    have a3 := (for_d (p := pName 3) (body := fo_b) a2).trans e1
    rw [d_folds_of_def, seq_nx a1, seq_nx a3]
    exact ret_d rfl
  exact run_ret (g := d_folds_of) (n := 6) (as := [.d (.int m), .d (tupP ps)]) e2
theorem folds_ok {m : Nat} {ps : List (Int × Int)} (h : Above m ps) (h1 : 1 ≤ m) (hm : m ≤ 6) : F_folds [.d (.int m), .d (tupP ps)] = .ok (.d (.tuple ((foldsP m ps).map tupI))) [.d (.int m), .d (tupP ps)] := by
  have e1 : dDrop (dCall 2 F_need_strip (dCons (dSto (dVar 0)) (dCons (dSto (dVar 1)) dNil))) [.d (.int m), .d (tupP ps)] = .nx [.d (.int m), .d (tupP ps)] := drop_d (call_d (as := [.int m, tupP ps]) rfl rfl (need_strip_ok h h1 hm) rfl)
  have e2 : dCallB gTup (dCons (dCall 2 F_folds_of (dCons (dSto (dVar 0)) (dCons (dSto (dVar 1)) dNil))) dNil) [.d (.int m), .d (tupP ps)] = .ok (.d (.tuple ((foldsP m ps).map tupI))) [.d (.int m), .d (tupP ps)] := callB1 (call_d (as := [.int m, tupP ps]) rfl rfl (folds_of_ok h h1 hm) rfl) rfl rfl
  have e3 : d_folds [.d (.int m), .d (tupP ps)] = .ret (.d (.tuple ((foldsP m ps).map tupI))) [.d (.int m), .d (tupP ps)] := by
    unfold d_folds
    rw [seq_nx e1]
    exact ret_d e2
  exact run_ret (g := d_folds) (n := 2) (as := [.d (.int m), .d (tupP ps)]) e3
end K39

set_option Elab.async false
set_option linter.all false
set_option maxRecDepth 100000
set_option maxHeartbeats 4000000
namespace K39
open PySem PySem.Spec PyProof.Rows L2 Dn
/-! ### a call that is lent the deck -/
theorem args_d (env : List Sl) : ∀ as : List PyData, argsS env (as.map Rv.d) = some (as.map Sl.d, as.map fun _ => none) := fun as => by
  induction as with
  | nil => rfl
  | cons a as ih => rw [List.map_cons, argsS, ih]; rfl
theorem back_d (env : List Sl) : ∀ (as : List PyData) (outs : List Sl), outs.length = as.length → backS (as.map fun _ => none) outs env = some env := fun as => by
  induction as with
  | nil => intro outs h; rw [List.length_eq_zero_iff.mp h]; rfl
  | cons a as ih =>
    intro outs h
    cases outs with
    | nil => cases h
    | cons o os => exact ih os (by simpa using h)
theorem call_le {np : Nat} {F : Fn} {fr : DeL} {env e1 : List Sl} {i : Nat} {w w' : Ow} {as : List PyData} {r : Rv} {outs : List Sl} (h : fr env = .ok (.bo i :: as.map Rv.d) e1) (hi : e1[i]? = some (.ow w) ∨ e1[i]? = some (.le w)) (hn : as.length + 1 = np) (hF : F (.le w :: as.map Sl.d) = .ok r (.le w' :: outs)) (ho : outs.length = as.length) : dCall np F fr env = .ok r (setOw e1 i w') := by
  have hf : (as.map fun _ => (none : Option Nat)).filterMap id = [] := by
    clear hF ho hn h
    induction as with
    | nil => rfl
    | cons a as ih => simpa using ih
  have ha : argS e1 (.bo i) = some (.le w, some i) := by
    unfold argS; simp only []; rcases hi with hi | hi <;> rw [hi]
  have ha2 : argsS e1 (.bo i :: as.map Rv.d) = some (.le w :: as.map Sl.d, some i :: as.map fun _ => none) := by
    rw [argsS, ha, args_d]
  unfold dCall
  rw [h]
  show callF np F (.bo i :: as.map Rv.d) e1 = _
  unfold callF
  rw [if_pos (by simpa using hn), ha2]
  simp only []
  rw [if_pos (by rw [List.filterMap_cons]; simp only [id]; rw [hf]; simp), hF]
  simp only []
  have : backS (some i :: as.map fun _ => none) (.le w' :: outs) e1 = backS (as.map fun _ => none) outs (setOw e1 i w') := rfl
  rw [this, back_d _ as outs ho]
theorem var_le {i : Nat} {env : List Sl} {w : Ow} (h : env[i]? = some (.le w)) : dVar i env = .ok (.bo i) env := by
  unfold dVar; rw [h]
theorem var_ow {i : Nat} {env : List Sl} {w : Ow} (h : env[i]? = some (.ow w)) : dVar i env = .ok (.bo i) env := by
  unfold dVar; rw [h]
/-! ### mixed -/
theorem erase_perm {α : Type} : ∀ (l : List α) (r : Nat) (h : r < l.length), (l[r] :: l.eraseIdx r).Perm l
  | x :: l, 0, _ => by simp
  | x :: l, r + 1, h => by
    have ih := erase_perm l r (by simpa using h)
    rw [List.getElem_cons_succ, List.eraseIdx_cons_succ]
    exact (List.Perm.swap _ _ _).trans (ih.cons x)
theorem mx_turn {b : Int} {w : Ow} {s1 : Sl} {left found : List PyData} (hD : DkOk b w) (hb : b < 1000000) (hl : left ≠ []) (h1 : left.length < 1000) (h2 : found.length < 1000) : ∃ w' y left', mx_b [.le w, s1, .ow (.lst left), .ow (.lst found)] = .nx [.le w', s1, .ow (.lst left'), .ow (.lst (found ++ [y]))] ∧ DkOk (b + 1) w' ∧ (y :: left').Perm left ∧ left'.length + 1 = left.length := by
  have hp : 0 < left.length := List.length_pos_iff.mpr hl
  obtain ⟨r, w', hF, hr, hD'⟩ := draw_ok (many := left.length) hD hb (by omega) (by omega)
  have hr : r < left.length := by omega
  refine ⟨w', left[r], left.eraseIdx r, ?_, hD', ?_, ?_⟩
  · have e1 : dCall 2 F__law_draw (dCons (dVar 0) (dCons (dSto (dCallB gLen (dCons (dVar 2) dNil))) dNil)) [.le w, s1, .ow (.lst left), .ow (.lst found)] = .ok (.d (.int r)) [.le w', s1, .ow (.lst left), .ow (.lst found)] :=
      call_le (as := [.int left.length]) (i := 0) (w := w) (w' := w') rfl (.inr rfl) rfl hF rfl
    have e2 : mPopAt [.d (.int r)] [.le w', s1, .ow (.lst left), .ow (.lst found)] left = some (left[r], left.eraseIdx r) := by
      have hs : seqIndex? (r : Int) left.length = some r := by
        unfold seqIndex?
        simp
        omega
      unfold mPopAt
      simp only []
      rw [if_pos (sm62n r (by omega)), hs]
      simp only [List.getElem?_eq_getElem hr, Option.map_some]
    have e3 : dMeth 2 mPopAt (dCons (dCall 2 F__law_draw (dCons (dVar 0) (dCons (dSto (dCallB gLen (dCons (dVar 2) dNil))) dNil))) dNil) [.le w, s1, .ow (.lst left), .ow (.lst found)] = .ok (.d left[r]) [.le w', s1, .ow (.lst (left.eraseIdx r)), .ow (.lst found)] := meth_d rfl (cons1 e1) rfl e2
    unfold mx_b
    refine drop_d (r := .d .none) (meth_d rfl (cons1 (sto_d e3)) rfl ?_)
    show (if found.length < lim then _ else _) = _
    rw [if_pos (Nat.lt_of_lt_of_le h2 (Nat.le_trans (by omega) lim_ge))]
  · exact erase_perm _ _ hr
  · rw [List.length_eraseIdx]; rw [if_pos hr]; omega
theorem mx_loop (s1 : Sl) : ∀ (n : Nat) (left found : List PyData) (b : Int) (w : Ow), DkOk b w → b + left.length < 1000000 → left.length < n → left.length + found.length < 1000 → ∃ w' ys, whileD mx_t mx_b n [.le w, s1, .ow (.lst left), .ow (.lst found)] = .nx [.le w', s1, .ow (.lst []), .ow (.lst ys)] ∧ DkOk (b + left.length) w' ∧ ys.Perm (left ++ found) := by
  intro n
  induction n with
  | zero => intro left found b w _ _ h; omega
  | succ n ih =>
    intro left found b w hD hb hn hl
    have hT : mx_t [.le w, s1, .ow (.lst left), .ow (.lst found)] = .ok (.d (.bool !left.isEmpty)) [.le w, s1, .ow (.lst left), .ow (.lst found)] := by
      unfold mx_t
      exact bin_d (ra := .bo 2) (rb := .ow (.lst [])) rfl rfl rfl rfl (ne_nil2 left)
    unfold whileD
    rw [hT]
    cases left with
    | nil => exact ⟨w, found, rfl, by simpa using hD, by simp⟩
    | cons z zs =>
      obtain ⟨w1, y, left', h1, h2, h3, h4⟩ := mx_turn (s1 := s1) (found := found) hD (by simp at hb; omega) (by simp : z :: zs ≠ []) (by omega) (by omega)
      obtain ⟨w', ys, h5, h6, h7⟩ := ih left' (found ++ [y]) (b + 1) w1 h2 (by simp at hb h4; omega) (by simp at hn h4; omega) (by simp at hl h4 ⊢; omega)
      refine ⟨w', ys, ?_, h6.le (by simp at h4 ⊢; omega), ?_⟩
      · show (match mx_b [.le w, s1, .ow (.lst (z :: zs)), .ow (.lst found)] with | .nx e1 => whileD mx_t mx_b n e1 | .ct e1 => whileD mx_t mx_b n e1 | .brk e1 => .nx e1 | .ret r e1 => .ret r e1 | .exc c x e1 => .exc c x e1 | .bad => .bad) = _
        rw [h1]
        exact h5
      · refine h7.trans ?_
        have : (left' ++ (found ++ [y])).Perm (y :: left' ++ found) := by
          rw [← List.append_assoc]
          refine List.perm_append_comm.trans ?_
          simp
        exact this.trans (List.Perm.append_right found h3)
theorem mixed_ok {b : Int} {w : Ow} {xs : List PyData} (hD : DkOk b w) (hb : b + xs.length < 1000000) (hl : xs.length < 1000) : ∃ w' ys, F__law_mixed [.le w, .d (.list xs)] = .ok (.ow (.lst ys)) [.le w', .d (.list xs)] ∧ DkOk (b + xs.length) w' ∧ ys.Perm xs := by
  obtain ⟨w', ys, h1, h2, h3⟩ := mx_loop (.d (.list xs)) fuel xs [] b w hD hb (by unfold fuel; omega) (by simpa using hl)
  refine ⟨w', ys, ?_, h2, by simpa using h3⟩
  have e1 : d__law_mixed [.le w, .d (.list xs), .un, .un] = .ret (.bo 3) [.le w', .d (.list xs), .ow (.lst []), .ow (.lst ys)] := by
    have a1 : dPar2 2 3 (dStb (dCallB Dn.gLst (dCons (dVar 1) dNil))) (dStb (dLst dNil)) [.le w, .d (.list xs), .un, .un] = .nx [.le w, .d (.list xs), .ow (.lst xs), .ow (.lst [])] := rfl
    rw [d__law_mixed_def, seq_nx a1, seq_nx h1]
    exact ret_d rfl
  exact run_ret (g := d__law_mixed) (n := 4) (as := [.le w, .d (.list xs)]) e1
end K39

set_option Elab.async false
set_option linter.all false
set_option maxRecDepth 100000
set_option maxHeartbeats 4000000
namespace K39
open PySem PySem.Spec PyProof.Rows L2 Dn
theorem sorted_pairs (ys : List (Int × Int)) : gSorted [.list (ys.map ofPair)] = some (.ow (.lst ((sortB leP ys).map ofPair))) := by
  have h : ∀ qs : List (Int × Int), pairs? (qs.map ofPair) = some qs := fun qs => by
    induction qs with
    | nil => rfl
    | cons q qs ih =>
      show (pairs? (qs.map ofPair)).map ((q.1, q.2) :: ·) = _
      rw [ih]; rfl
  unfold gSorted; simp only []
  cases ys with
  | nil => rfl
  | cons y ys =>
    have : ints? ((y :: ys).map ofPair) = none := rfl
    rw [this]
    simp only []
    rw [h]; rfl
theorem sort_lt {ys : List (Int × Int)} (h : ys.Nodup) : (sortB leP ys).Pairwise ltP := by
  have h1 : (sortB leP ys).Nodup := (sortB_perm ys).nodup_iff.mpr h
  have h2 : (sortB leP ys).Pairwise (fun x y => leP x y = true) := sortB_ord (fun x y => by rw [leP_iff, leP_iff]; omega) (fun x y z a b => by
      have := leP_iff.mp a; have := leP_iff.mp b
      exact leP_iff.mpr (by omega)) ys
  have h3 := h2.and h1
  refine h3.imp fun {p q} hh => ?_
  obtain ⟨a, b⟩ := hh
  have a := leP_iff.mp a
  unfold ltP
  rcases a with a | ⟨a, c⟩
  · exact .inl a
  · refine .inr ⟨a, ?_⟩
    have : p.2 ≠ q.2 := fun e => b (Prod.ext a e)
    omega
theorem above_of {m : Nat} {ys : List (Int × Int)} (h1 : ys.Nodup) (h2 : ∀ p ∈ ys, 0 ≤ p.1 ∧ p.1 < m ∧ 0 ≤ p.2 ∧ p.2 < m ∧ p.1 ≠ p.2) (h3 : ys.length ≤ m * m) : Above m (sortB leP ys) :=
  ⟨fun p hp => h2 p ((sortB_perm ys).mem_iff.mp hp), sort_lt h1, by rw [(sortB_perm ys).length_eq]; exact h3⟩
def rowPairs (m : Nat) (i : Int) : List (Int × Int) := ((List.range m).filter fun j : Nat => !(i == (j : Int))).map fun j : Nat => (i, (j : Int))
def allP (m : Nat) : List (Int × Int) := (List.range m).flatMap fun i : Nat => rowPairs m i
theorem allP_in {m : Nat} : ∀ p ∈ allP m, 0 ≤ p.1 ∧ p.1 < m ∧ 0 ≤ p.2 ∧ p.2 < m ∧ p.1 ≠ p.2 := by
  intro p hp
  unfold allP at hp
  rw [List.mem_flatMap] at hp
  obtain ⟨i, hi, hp⟩ := hp
  unfold rowPairs at hp
  obtain ⟨j, hj, rfl⟩ := List.mem_map.mp hp
  rw [List.mem_filter, List.mem_range] at hj
  have hi := List.mem_range.mp hi
  have hne : ¬ ((i : Int) = j) := by simpa using hj.2
  exact ⟨by simp, by simpa using hi, by simp, by simpa using hj.1, hne⟩
theorem allP_nodup (m : Nat) (hm : m ≤ 6) : (allP m).Nodup ∧ (allP m).length ≤ m * m := by
  have : m = 0 ∨ m = 1 ∨ m = 2 ∨ m = 3 ∨ m = 4 ∨ m = 5 ∨ m = 6 := by omega
  rcases this with rfl | rfl | rfl | rfl | rfl | rfl | rfl <;> decide
theorem ab_row (m : Nat) (hm : m ≤ 6) (s0 s2 s5 : Sl) (acc : List PyData) (i : Nat) (ha : acc.length ≤ 1000) : ab_b [s0, .d (.int m), s2, .ow (.lst acc), .d (.int i), s5, .un] = .nx [s0, .d (.int m), s2, .ow (.lst (acc ++ (rowPairs m i).map ofPair)), .d (.int i), s5, .un] := by
  have e1 : ab_c [s0, .d (.int m), s2, .ow (.lst acc), .d (.int i), s5, .un] = .ok (.ow (.lst ((rowPairs m i).map ofPair))) [s0, .d (.int m), s2, .ow (.lst acc), .d (.int i), s5, .un] := by
    have q := dLc_pure (fi := iRange1 (dCons (dVar 1) dNil)) (vs := [6]) (p := pName 6) (t := dBin gNeA (dVar 4) (dVar 6)) (el := dTup (dCons (dSto (dVar 4)) (dCons (dSto (dVar 6)) dNil))) (env := [s0, .d (.int m), s2, .ow (.lst acc), .d (.int i), s5, .un]) (xs := Dn.intsFrom 0 m)
      (fun x => match x with | .int j => !((i : Int) == j) | _ => false) (fun x => match x with | .int j => ofPair (i, j) | _ => .none) (fun x => [s0, .d (.int m), s2, .ow (.lst acc), .d (.int i), s5, .d x]) (range1n (m := m) rfl (by omega)) rfl rfl (fun x hx => by
        obtain ⟨k, _, rfl⟩ := List.mem_map.mp hx
        exact ⟨rfl, bin_s rfl rfl (ne_int2 _ _), fun _ => tup_d rfl rfl (by simp), rfl⟩) (by simp [Dn.intsFrom]; exact Nat.le_trans hm (Nat.le_trans (by omega) lim_ge))
    have e : (List.map (fun x => match x with | .int j => ofPair ((i : Int), j) | _ => PyData.none) ((Dn.intsFrom 0 m).filter (fun x => match x with | .int j => !((i : Int) == j) | _ => false))) = (rowPairs m i).map ofPair := by
      simp [Dn.intsFrom, rowPairs, List.filter_map, Function.comp_def]
    unfold ab_c
    rw [q, e]
  have hlen : (rowPairs m i).length ≤ m := by
    unfold rowPairs; rw [List.length_map]; exact Nat.le_trans (List.length_filter_le _ _) (by simp)
  unfold ab_b
  refine drop_d (r := .d .none) (meth_d rfl (cons1 e1) rfl ?_)
  show (if acc.length + ((rowPairs m i).map ofPair).length ≤ lim then _ else _) = _
  rw [if_pos (by rw [List.length_map]; exact Nat.le_trans (by omega) lim_ge)]
theorem ab_rows (m : Nat) (hm : m ≤ 6) (s0 s2 s5 s4 : Sl) : ∃ s4', ab_1 [s0, .d (.int m), s2, .ow (.lst []), s4, s5, .un] = .nx [s0, .d (.int m), s2, .ow (.lst ((allP m).map ofPair)), s4', s5, .un] ∧ (s4' = s4 ∨ ∃ x, s4' = .d x) := by
  obtain ⟨e', h1, h2⟩ := for_pre (p := pName 4) (body := ab_b) (fun pre e => ∃ (k : Nat) (s4' : Sl), pre = Dn.intsFrom 0 k ∧ e = [s0, .d (.int m), s2, .ow (.lst (((List.range k).flatMap fun i : Nat => rowPairs m i).map ofPair)), s4', s5, .un] ∧ (s4' = s4 ∨ ∃ x, s4' = .d x)) (Dn.intsFrom 0 m) [] [s0, .d (.int m), s2, .ow (.lst []), s4, s5, .un] ⟨0, s4, rfl, rfl, .inl rfl⟩ (by
    rintro pre' x post env he ⟨k, s4', rfl, rfl, _⟩
    have hk : k < m := by
      have := congrArg List.length he
      simp [Dn.intsFrom] at this
      omega
    have hx : x = .int k := by
      have := congrArg (fun l => l[k]?) he
      simp [Dn.intsFrom, hk] at this
      exact this.symm
    subst hx
    have hle : ∀ k : Nat, ((List.range k).flatMap fun i : Nat => rowPairs m i).length ≤ k * m := fun k => by
      induction k with
      | zero => simp
      | succ k ih =>
        rw [List.range_succ, List.flatMap_append, List.length_append, Nat.succ_mul]
        have : (rowPairs m k).length ≤ m := by
          unfold rowPairs; rw [List.length_map]; exact Nat.le_trans (List.length_filter_le _ _) (by simp)
        simp only [List.flatMap_cons, List.flatMap_nil, List.append_nil]
        omega
    have hle := hle k
    have h36 : k * m ≤ 6 * 6 := Nat.mul_le_mul (by omega) hm
    refine ⟨_, _, rfl, ab_row m hm s0 s2 s5 _ k (by rw [List.length_map]; omega), k + 1, .d (.int k), ?_, ?_, .inr ⟨_, rfl⟩⟩
    · simp [Dn.intsFrom, List.range_succ]
    · rw [List.range_succ, List.flatMap_append, List.map_append]; simp)
  obtain ⟨k, s4', hk, rfl, h4⟩ := h2
  have hk : k = m := by
    have := congrArg List.length hk
    simp [Dn.intsFrom] at this
    exact this.symm
  subst hk
  refine ⟨s4', ?_, h4⟩
  have a2 : iRange1 (dCons (dVar 1) dNil) [s0, .d (.int k), s2, .ow (.lst []), s4, s5, .un] = .ok (Dn.intsFrom 0 k) [s0, .d (.int k), s2, .ow (.lst []), s4, s5, .un] := range1n (m := k) rfl (by omega)
  unfold ab_1
  rw [for_d a2, h1]
  rfl
theorem ab_filter (m : Nat) (hm : m ≤ 6) {l : List Int} (hl : l.length = m) (s0 s1 s4 s5 : Sl) (h4 : s4 = .un ∨ ∃ x, s4 = .d x) : ab_f [s0, s1, .d (tupI l), .ow (.lst ((allP m).map ofPair)), s4, s5, .un] = .ok (.ow (.lst (((allP m).filter fun p => decide (getI l p.2 < getI l p.1)).map ofPair))) [s0, s1, .d (tupI l), .d (.list ((allP m).map ofPair)), s4, s5, .un] := by
  have q := dLc_pure (fi := iSeq (dSto (dVar 3))) (vs := [4, 6]) (p := pTup 2 (pCons (pName 4) (pCons (pName 6) pNil))) (t := dBin gGtI (dBin gIx (dVar 2) (dVar 4)) (dBin gIx (dVar 2) (dVar 6))) (el := dTup (dCons (dSto (dVar 4)) (dCons (dSto (dVar 6)) dNil))) (env := [s0, s1, .d (tupI l), .d (.list ((allP m).map ofPair)), s4, s5, .un]) (xs := (allP m).map ofPair)
    (fun x => match x with | .tuple [.int i, .int j] => decide (getI l j < getI l i) | _ => false) (fun x => x) (fun x => match x with | .tuple [a, b] => [s0, s1, .d (tupI l), .d (.list ((allP m).map ofPair)), .d a, s5, .d b] | _ => []) rfl (by rcases h4 with rfl | ⟨x, rfl⟩ <;> rfl) (by rcases h4 with rfl | ⟨x, rfl⟩ <;> rfl) (fun x hx => by
      obtain ⟨p, hp, rfl⟩ := List.mem_map.mp hx
      have hr := allP_in p hp
      refine ⟨rfl, ?_, fun _ => tup_d rfl rfl (by simp), rfl⟩
      exact bin_s (x := .int (getI l p.1)) (y := .int (getI l p.2)) (bin_s rfl rfl (ix_ok (by omega) (by omega))) (bin_s rfl rfl (ix_ok (by omega) (by omega))) rfl) (by rw [List.length_map]; exact Nat.le_trans (allP_nodup m hm).2 (Nat.le_trans (Nat.mul_le_mul hm hm) (Nat.le_trans (by omega) lim_ge)))
  have e : (((allP m).map ofPair).filter (fun x => match x with | .tuple [.int i, .int j] => decide (getI l j < getI l i) | _ => false)).map (fun x => x) = ((allP m).filter fun p => decide (getI l p.2 < getI l p.1)).map ofPair := by
    simp [List.filter_map, Function.comp_def, ofPair]
  rw [e] at q
  have e2 : ∀ (vs : List Nat) (p : Put) (t el : De), dLc (iSeq (dSto (dVar 3))) vs p t el [s0, s1, .d (tupI l), .ow (.lst ((allP m).map ofPair)), s4, s5, .un] = dLc (iSeq (dSto (dVar 3))) vs p t el [s0, s1, .d (tupI l), .d (.list ((allP m).map ofPair)), s4, s5, .un] := fun vs p t el => by
    have e1 : iSeq (dSto (dVar 3)) [s0, s1, .d (tupI l), .ow (.lst ((allP m).map ofPair)), s4, s5, .un] = .ok ((allP m).map ofPair) [s0, s1, .d (tupI l), .d (.list ((allP m).map ofPair)), s4, s5, .un] := rfl
    have e2 : iSeq (dSto (dVar 3)) [s0, s1, .d (tupI l), .d (.list ((allP m).map ofPair)), s4, s5, .un] = .ok ((allP m).map ofPair) [s0, s1, .d (tupI l), .d (.list ((allP m).map ofPair)), s4, s5, .un] := rfl
    unfold dLc
    rw [e1, e2]
  unfold ab_f
  rw [e2, q]
/-! ### each two neighbours, one of both ways -/
def isNb (k : Nat) (p : Int × Int) : Prop := p = ((k : Int), (k : Int) + 1) ∨ p = ((k : Int) + 1, (k : Int))
theorem nb_mem : ∀ {ks : List Nat} {ys : List (Int × Int)}, All2 isNb ks ys → (∀ p ∈ ys, ∃ k ∈ ks, isNb k p) ∧ ys.length = ks.length
  | [], _, .nil => ⟨by simp, rfl⟩
  | k :: ks, _, .cons h t => by
    obtain ⟨a, b⟩ := nb_mem t
    refine ⟨fun p hp => ?_, by simp [b]⟩
    rcases List.mem_cons.mp hp with rfl | hp
    · exact ⟨k, by simp, h⟩
    · obtain ⟨k', h1, h2⟩ := a p hp
      exact ⟨k', by simp [h1], h2⟩
theorem nb_nodup : ∀ {ks : List Nat} {ys : List (Int × Int)}, All2 isNb ks ys → ks.Nodup → ys.Nodup
  | [], _, .nil, _ => List.nodup_nil
  | k :: ks, _, .cons h t, hn => by
    rw [List.nodup_cons] at hn ⊢
    refine ⟨fun hp => ?_, nb_nodup t hn.2⟩
    obtain ⟨k', h1, h2⟩ := (nb_mem t).1 _ hp
    have : k = k' := by
      rcases h with rfl | rfl <;> rcases h2 with h2 | h2 <;> (injection h2 with h3 h4; omega)
    exact hn.1 (this ▸ h1)
theorem nb_above {m : Nat} (h1 : 1 ≤ m) {ys : List (Int × Int)} (h : All2 isNb (List.range (m - 1)) ys) : Above m (sortB leP ys) := by
  obtain ⟨a, b⟩ := nb_mem h
  refine above_of (nb_nodup h List.nodup_range) (fun p hp => ?_) ?_
  · obtain ⟨k, hk, h2⟩ := a p hp
    have hk := List.mem_range.mp hk
    rcases h2 with rfl | rfl <;> simp <;> omega
  · rw [b, List.length_range]
    exact Nat.le_trans (Nat.sub_le _ _) (Nat.le_mul_of_pos_left m h1)
end K39

set_option Elab.async false
set_option linter.all false
set_option maxRecDepth 100000
set_option maxHeartbeats 4000000
namespace K39
open PySem PySem.Spec PyProof.Rows L2 Dn
def unP : PyData → Int × Int
  | .tuple [.int i, .int j] => (i, j)
  | _ => (0, 0)
theorem un_of (p : Int × Int) : unP (ofPair p) = p := rfl
theorem perm_pairs {ys : List PyData} {qs : List (Int × Int)} (h : ys.Perm (qs.map ofPair)) : ∃ zs : List (Int × Int), ys = zs.map ofPair ∧ zs.Perm qs := by
  refine ⟨ys.map unP, ?_, ?_⟩
  · have : ∀ y ∈ ys, ofPair (unP y) = y := fun y hy => by
      obtain ⟨p, _, rfl⟩ := List.mem_map.mp (h.mem_iff.mp hy)
      rfl
    rw [List.map_map]
    conv => lhs; rw [← List.map_id ys]
    exact List.map_congr_left fun y hy => (this y hy).symm
  · have := h.map unP
    rw [List.map_map] at this
    have e : (unP ∘ ofPair) = id := funext un_of
    rwa [e, List.map_id] at this
theorem eq_int0 (r : Nat) : gEqA (.int r) (.int 0) = some (.d (.bool ((r : Int) == 0))) := eq_int _ _
def nbEl (i j : Nat) : De := dSto (dIf (dBin gEqA (dCall 2 F__law_draw (dCons (dVar i) (dCons (dC (.int 2)) (dNil)))) (dC (.int 0))) (dTup (dCons (dSto (dVar j)) (dCons (dSto (dBin gAdd (dVar j) (dC (.int 1)))) (dNil)))) (dTup (dCons (dSto (dBin gAdd (dVar j) (dC (.int 1)))) (dCons (dSto (dVar j)) (dNil)))))
theorem nb_all {f : Nat → PyData} (hf : ∀ k, f k = .int ((0 : Int) + (k : Int))) : ∀ {ks : List Nat} {ys : List PyData}, All2 (fun x y => ∃ (k : Nat) (p : Int × Int), x = .int k ∧ y = ofPair p ∧ isNb k p) (ks.map f) ys → ∃ zs, ys = zs.map ofPair ∧ All2 isNb ks zs
  | [], _, .nil => ⟨[], rfl, .nil⟩
  | k :: ks, _, .cons h t => by
    obtain ⟨zs, rfl, t'⟩ := nb_all hf t
    obtain ⟨k', p, h1, rfl, h3⟩ := h
    rw [hf] at h1
    injection h1 with h1
    have : k' = k := by omega
    subst this
    exact ⟨p :: zs, rfl, .cons h3 t'⟩
theorem nb_lc {i j : Nat} (E : Ow → List Sl) (hv : ∀ w x, dVar i ((E w).set j (.d x)) = .ok (.bo i) ((E w).set j (.d x))) (h1 : ∀ w x, ((E w).set j (.d x))[i]? = some (.ow w) ∨ ((E w).set j (.d x))[i]? = some (.le w)) (h2 : ∀ w w' x, setOw ((E w).set j (.d x)) i w' = (E w').set j (.d x)) (h3 : ∀ w x, ((E w).set j (.d x)).set j .un = E w) (h4 : ∀ w x, dVar j ((E w).set j (.d x)) = .ok (.d x) ((E w).set j (.d x)))
    {b : Int} {w : Ow} (hD : DkOk b w) (n : Nat) (hn : n ≤ 1000) (hb : b + n < 1000000) : ∃ ys w', lcD [j] (pName j) dYes (nbEl i j) (Dn.intsFrom 0 n) [] (E w) = .ok (ys.map ofPair) (E w') ∧ All2 isNb (List.range n) ys ∧ DkOk (b + n) w' := by
  obtain ⟨ys, env', e1, e2, e3⟩ := lc_inv (vs := [j]) (p := pName j) (t := dYes) (el := nbEl i j) (fun k e => ∃ w, e = E w ∧ DkOk (b + k) w) (fun x y => ∃ (k : Nat) (p : Int × Int), x = .int k ∧ y = ofPair p ∧ isNb k p) (Dn.intsFrom 0 n) [] 0 (E w) ⟨w, rfl, by simpa using hD⟩ (by
    rintro x hx k' env hk ⟨w, rfl, hD⟩
    obtain ⟨k, _, rfl⟩ := List.mem_map.mp hx
    have hk : k' < n := by simpa [Dn.intsFrom] using hk
    obtain ⟨r, w', hF, hr, hD'⟩ := draw_ok (many := 2) hD (by omega) (by omega) (by omega)
    have hz : (0 : Int) + (k : Int) = (k : Int) := by omega
    rw [hz]
    have c1 : dCall 2 F__law_draw (dCons (dVar i) (dCons (dC (.int 2)) dNil)) ((E w).set j (.d (.int k))) = .ok (.d (.int r)) ((E w').set j (.d (.int k))) := by
      rw [← h2 w w']
      exact call_le (as := [.int 2]) (cons_d (hv w _) rfl) (h1 w _) rfl hF rfl
    have c2 := bin_d (fb := dC (.int 0)) c1 rfl rfl rfl (eq_int0 r)
    have c3 : dBin gAdd (dVar j) (dC (.int 1)) ((E w').set j (.d (.int k))) = .ok (.d (.int (k + 1))) ((E w').set j (.d (.int k))) := bin_s (h4 w' _) rfl rfl
    cases hq : ((r : Int) == 0) with
    | true =>
      rw [hq] at c2
      refine ⟨_, _, ofPair (k, k + 1), rfl, rfl, sto_d ((ifE_t c2).trans (tup_d (cons_d (sto_d (h4 w' _)) (cons1 (sto_d c3))) rfl (by simp))), ⟨k, _, rfl, rfl, .inl rfl⟩, w', h3 w' _, hD'.le (by omega)⟩
    | false =>
      rw [hq] at c2
      refine ⟨_, _, ofPair (k + 1, k), rfl, rfl, sto_d ((ifE_f c2).trans (tup_d (cons_d (sto_d c3) (cons1 (sto_d (h4 w' _)))) rfl (by simp))), ⟨k, _, rfl, rfl, .inr rfl⟩, w', h3 w' _, hD'.le (by omega)⟩) (by simp [Dn.intsFrom]; exact Nat.le_trans hn (Nat.le_trans (by omega) lim_ge))
  obtain ⟨w', rfl, hD'⟩ := e3
  obtain ⟨zs, rfl, ha⟩ := nb_all (fun _ => rfl) e2
  refine ⟨zs, w', by simpa using e1, ha, hD'.le (by simp [Dn.intsFrom])⟩
theorem take_cut (xs : List PyData) (k : Nat) : Dn.cutD xs none (some (k : Int)) = xs.take k := by
  have a1 : HT.sIx xs.length 0 none = 0 := rfl
  unfold Dn.cutD
  rw [a1, HT.sIx_nat, List.drop_zero, Nat.sub_zero]
  rcases Nat.le_total k xs.length with h | h
  · rw [Nat.min_eq_left h]
  · rw [Nat.min_eq_right h, List.take_length, List.take_of_length_le h]
theorem above_ok {b : Int} {w : Ow} {m : Nat} {l : List Int} (hD : DkOk b w) (hb0 : 0 ≤ b) (hb : b < 900000) (h1 : 1 ≤ m) (hm : m ≤ 6) (hl : l.length = m) : ∃ ps w', F__law_above [.le w, .d (.int m), .d (tupI l)] = .ok (.d (tupP ps)) [.le w', .d (.int m), .d (tupI l)] ∧ Above m ps ∧ DkOk (b + 100) w' := by
  have a0 : ab_0 [.le w, .d (.int m), .d (tupI l), .un, .un, .un, .un] = .nx [.le w, .d (.int m), .d (tupI l), .ow (.lst []), .un, .un, .un] := rfl
  obtain ⟨s4, a1, h4⟩ := ab_rows m hm (.le w) (.d (tupI l)) .un .un
  have h4 : s4 = .un ∨ ∃ x, s4 = .d x := h4
  obtain ⟨r, w1, hF, hr, hD1⟩ := draw_ok (many := 5) hD (by omega) (by omega) (by omega)
  have a2 : ab_2 [.le w, .d (.int m), .d (tupI l), .ow (.lst ((allP m).map ofPair)), s4, .un, .un] = .nx [.le w1, .d (.int m), .d (tupI l), .ow (.lst ((allP m).map ofPair)), s4, .d (.int r), .un] := by
    unfold ab_2
    exact set_d (stb_d (call_le (as := [.int 5]) (i := 0) (w := w) (w' := w1) rfl (.inr rfl) rfl hF rfl))
  obtain ⟨nd, ln⟩ := allP_nodup m hm
  have l36 : m * m ≤ 36 := Nat.mul_le_mul hm hm
  have a3 : ∃ qs : List (Int × Int), ab_3 [.le w1, .d (.int m), .d (tupI l), .ow (.lst ((allP m).map ofPair)), s4, .d (.int r), .un] = .nx [.le w1, .d (.int m), .d (tupI l), .ow (.lst (qs.map ofPair)), s4, .d (.int r), .un] ∧ qs.Sublist (allP m) := by
    have t : dBin gLtA (dVar 5) (dC (.int 3)) [.le w1, .d (.int m), .d (tupI l), .ow (.lst ((allP m).map ofPair)), s4, .d (.int r), .un] = .ok (.d (.bool (decide ((r : Int) < 3)))) [.le w1, .d (.int m), .d (tupI l), .ow (.lst ((allP m).map ofPair)), s4, .d (.int r), .un] := bin_s rfl rfl rfl
    unfold ab_3
    cases hq : decide ((r : Int) < 3) with
    | true =>
      rw [hq] at t
      refine ⟨(allP m).filter fun p => decide (getI l p.2 < getI l p.1), ?_, List.filter_sublist⟩
      rw [if_t t, set_ow (ab_filter m hm hl _ _ s4 _ h4)]
      rfl
    | false =>
      rw [hq] at t
      exact ⟨allP m, if_fp t, List.Sublist.refl _⟩
  obtain ⟨qs, a3, hs⟩ := a3
  have t4 : dBin gEqA (dVar 5) (dC (.int 3)) [.le w1, .d (.int m), .d (tupI l), .ow (.lst (qs.map ofPair)), s4, .d (.int r), .un] = .ok (.d (.bool ((r : Int) == 3))) [.le w1, .d (.int m), .d (tupI l), .ow (.lst (qs.map ofPair)), s4, .d (.int r), .un] := bin_s rfl rfl (eq_int _ _)
  have fin : ∀ ps w' (env : List Sl), d__law_above [.le w, .d (.int m), .d (tupI l), .un, .un, .un, .un] = .ret (.d (tupP ps)) (.le w' :: env) → 2 ≤ env.length → F__law_above [.le w, .d (.int m), .d (tupI l)] = .ok (.d (tupP ps)) [.le w', .d (.int m), .d (tupI l)] := fun ps w' env h h2 => by
    refine (run_ret (g := d__law_above) (n := 7) (as := [.le w, .d (.int m), .d (tupI l)]) h).trans ?_
    rcases env with _ | ⟨a, _ | ⟨b, t⟩⟩
    · simp at h2
    · simp at h2
    · simp [finF, outs?]
  have step : ∀ ps w' (env : List Sl), dSeq ab_4 ab_5 [.le w1, .d (.int m), .d (tupI l), .ow (.lst (qs.map ofPair)), s4, .d (.int r), .un] = .ret (.d (tupP ps)) (.le w' :: env) → 2 ≤ env.length → F__law_above [.le w, .d (.int m), .d (tupI l)] = .ok (.d (tupP ps)) [.le w', .d (.int m), .d (tupI l)] := fun ps w' env h h2 => by
    refine fin ps w' env ?_ h2
    rw [d__law_above_def, seq_nx a0, seq_nx a1, seq_nx a2, seq_nx a3, h]
  cases hq : ((r : Int) == 3) with
  | true =>
    rw [hq] at t4
    obtain ⟨ys, w2, e1, e2, e3⟩ := nb_lc (i := 0) (j := 4) (fun w => [.le w, .d (.int m), .d (tupI l), .ow (.lst (qs.map ofPair)), .un, .d (.int r), .un]) (fun _ _ => rfl) (fun _ _ => .inr rfl) (fun _ _ _ => rfl) (fun _ _ => rfl) (fun _ _ => rfl) hD1 (m - 1) (by omega) (by omega)
    refine ⟨sortB leP ys, w2, step _ w2 [.d (.int m), .d (tupI l), .ow (.lst (ys.map ofPair)), s4, .d (.int r), .un] ?_ (by simp), nb_above h1 e2, e3.le (by omega)⟩
    have r1 : iRange1 (dCons (dBin gSubI (dVar 1) (dC (.int 1))) dNil) [.le w1, .d (.int m), .d (tupI l), .ow (.lst (qs.map ofPair)), s4, .d (.int r), .un] = .ok (Dn.intsFrom 0 (m - 1)) [.le w1, .d (.int m), .d (tupI l), .ow (.lst (qs.map ofPair)), s4, .d (.int r), .un] := by
      have hs : dBin gSubI (dVar 1) (dC (.int 1)) [.le w1, .d (.int m), .d (tupI l), .ow (.lst (qs.map ofPair)), s4, .d (.int r), .un] = .ok (.d (.int ((m - 1 : Nat) : Int))) [.le w1, .d (.int m), .d (tupI l), .ow (.lst (qs.map ofPair)), s4, .d (.int r), .un] := by
        have : ((m - 1 : Nat) : Int) = (m : Int) - 1 := by omega
        rw [this]; exact bin_s rfl rfl rfl
      exact range1n (cons1 hs) (by omega)
    have hno : noOw [.le w1, .d (.int m), .d (tupI l), .ow (.lst (qs.map ofPair)), s4, .d (.int r), .un] [4] = true := by rcases h4 with rfl | ⟨x, rfl⟩ <;> rfl
    have n1 : ab_n [.le w1, .d (.int m), .d (tupI l), .ow (.lst (qs.map ofPair)), s4, .d (.int r), .un] = .ok (.ow (.lst (ys.map ofPair))) [.le w2, .d (.int m), .d (tupI l), .ow (.lst (qs.map ofPair)), s4, .d (.int r), .un] := by
      unfold ab_n dLc
      rw [r1]
      show (if noOw [.le w1, .d (.int m), .d (tupI l), .ow (.lst (qs.map ofPair)), s4, .d (.int r), .un] [4] = true then _ else _) = _
      rw [if_pos hno]
      have e1' : lcD [4] (pName 4) dYes (nbEl 0 4) (Dn.intsFrom 0 (m - 1)) [] (wipeE [.le w1, .d (.int m), .d (tupI l), .ow (.lst (qs.map ofPair)), s4, .d (.int r), .un] [4]) = _ := e1
      unfold nbEl at e1'
      rw [e1']
      rfl
    have n2 : ab_4 [.le w1, .d (.int m), .d (tupI l), .ow (.lst (qs.map ofPair)), s4, .d (.int r), .un] = .ret (.d (tupP (sortB leP ys))) [.le w2, .d (.int m), .d (tupI l), .ow (.lst (ys.map ofPair)), s4, .d (.int r), .un] := by
      unfold ab_4
      rw [if_t t4, seq_nx (set_ow n1)]
      exact ret_d (callB1 (callB1 (ra := .bo 3) rfl rfl (sorted_pairs ys)) rfl rfl)
    exact seq_ret n2
  | false =>
    rw [hq] at t4
    have n1 : ab_4 [.le w1, .d (.int m), .d (tupI l), .ow (.lst (qs.map ofPair)), s4, .d (.int r), .un] = .nx [.le w1, .d (.int m), .d (tupI l), .ow (.lst (qs.map ofPair)), s4, .d (.int r), .un] := by
      unfold ab_4; exact if_fp t4
    have lq : qs.length ≤ 36 := Nat.le_trans hs.length_le (Nat.le_trans ln l36)
    obtain ⟨w2, ys, x1, x2, x3⟩ := mixed_ok (xs := qs.map ofPair) hD1 (by simp; omega) (by simp; omega)
    rw [List.length_map] at x2
    obtain ⟨zs, rfl, hz⟩ := perm_pairs x3
    obtain ⟨x, hx, w3, y1, y2⟩ := pick_ok (xs := [.int 0, .int 1, .int 2, .int 3, .int 6]) x2 (by omega) (by simp) (by simp)
    have hk : ∃ k : Nat, x = .int k := by
      simp only [List.mem_cons, List.not_mem_nil, or_false] at hx
      rcases hx with rfl | rfl | rfl | rfl | rfl
      · exact ⟨0, rfl⟩
      · exact ⟨1, rfl⟩
      · exact ⟨2, rfl⟩
      · exact ⟨3, rfl⟩
      · exact ⟨6, rfl⟩
    obtain ⟨k, rfl⟩ := hk
    have hsub : (zs.take k).Sublist zs := List.take_sublist k zs
    refine ⟨sortB leP (zs.take k), w3, step _ w3 [.d (.int m), .d (tupI l), .d (.list (qs.map ofPair)), s4, .d (.int r), .un] ?_ (by simp), above_of ?_ ?_ ?_, y2.le (by omega)⟩
    · rw [seq_nx n1]
      have c1 : dCall 2 F__law_mixed (dCons (dVar 0) (dCons (dSto (dVar 3)) dNil)) [.le w1, .d (.int m), .d (tupI l), .ow (.lst (qs.map ofPair)), s4, .d (.int r), .un] = .ok (.ow (.lst (zs.map ofPair))) [.le w2, .d (.int m), .d (tupI l), .d (.list (qs.map ofPair)), s4, .d (.int r), .un] :=
        call_le (as := [.list (qs.map ofPair)]) (i := 0) (w := w1) (w' := w2) rfl (.inr rfl) rfl x1 rfl
      have c2 : dCall 2 F__law_pick (dCons (dVar 0) (dCons (dSto (dLst (dCons (dC (.int 0)) (dCons (dC (.int 1)) (dCons (dC (.int 2)) (dCons (dC (.int 3)) (dCons (dC (.int 6)) dNil))))))) dNil)) [.le w2, .d (.int m), .d (tupI l), .d (.list (qs.map ofPair)), s4, .d (.int r), .un] = .ok (.d (.int k)) [.le w3, .d (.int m), .d (tupI l), .d (.list (qs.map ofPair)), s4, .d (.int r), .un] :=
        call_le (as := [.list [.int 0, .int 1, .int 2, .int 3, .int 6]]) (i := 0) (w := w2) (w' := w3) rfl (.inr rfl) rfl y1 rfl
      have c3 : ∀ (fa : De) (hi : De) (e0 e1 e2 : List Sl), fa e0 = .ok (.ow (.lst (zs.map ofPair))) e1 → hi e1 = .ok (.d (.int k)) e2 → dSlice fa oNo (oSome hi) e0 = .ok (.ow (.lst ((zs.take k).map ofPair))) e2 := fun fa hi e0 e1 e2 h1 h2 => by
        unfold dSlice oNo oSome
        rw [h1]; simp only [Res.bind]; rw [h2]; simp only [Rv.val, gSlice]
        rw [take_cut, List.map_take]; rfl
      unfold ab_5
      exact ret_d (callB1 (callB1 (c3 _ _ _ _ _ c1 c2) rfl (sorted_pairs _)) rfl rfl)
    · exact (hsub.nodup (hz.nodup_iff.mpr (hs.nodup nd)))
    · intro p hp
      exact allP_in p (hs.subset (hz.mem_iff.mp (hsub.subset hp)))
    · have := hsub.length_le
      rw [hz.length_eq] at this
      exact Nat.le_trans this (Nat.le_trans hs.length_le ln)
end K39

set_option Elab.async false
set_option linter.all false
set_option maxRecDepth 100000
set_option maxHeartbeats 4000000
namespace K39
open PySem PySem.Spec PyProof.Rows L2 Dn
theorem pair_lay : ∀ ps : List (Int × Int), PyData.canLayAll0 (ps.map ofPair) = true ∧ PyData.depthAll (ps.map ofPair) ≤ 1 ∧ PyData.hasDictAll (ps.map ofPair) = false
  | [] => by simp [PyData.canLayAll0, PyData.depthAll, PyData.hasDictAll]
  | p :: ps => by
    obtain ⟨h1, h2, h3⟩ := pair_lay ps
    refine ⟨by simp [PyData.canLayAll0, PyData.canLay0, h1, ofPair], ?_, by simp [PyData.hasDictAll, PyData.hasDict, h3, ofPair]⟩
    simp only [List.map_cons, PyData.depthAll, PyData.depth, ofPair] at h2 ⊢
    omega
theorem short36 : ((List.range 6).all fun i : Nat => (List.range 6).all fun j : Nat => decide ((PyData.shown (ofPair ((i : Int), (j : Int)))).length ≤ 20)) = true := by kernel_rfl
theorem short_pair {p : Int × Int} (h : 0 ≤ p.1 ∧ p.1 < 6 ∧ 0 ≤ p.2 ∧ p.2 < 6) : (PyData.shown (ofPair p)).length ≤ 20 ∧ PyData.showable (ofPair p) = true := by
  obtain ⟨a, b⟩ := p
  obtain ⟨h1, h2, h3, h4⟩ := h
  simp only at h1 h2 h3 h4
  constructor
  · have h := List.all_eq_true.mp short36 a.toNat (List.mem_range.mpr (by omega))
    have h := of_decide_eq_true (List.all_eq_true.mp h b.toNat (List.mem_range.mpr (by omega)))
    rwa [show ((a.toNat : Nat) : Int) = a by omega, show ((b.toNat : Nat) : Int) = b by omega] at h
  · have e : a = 0 ∨ a = 1 ∨ a = 2 ∨ a = 3 ∨ a = 4 ∨ a = 5 := by omega
    have e2 : b = 0 ∨ b = 1 ∨ b = 2 ∨ b = 3 ∨ b = 4 ∨ b = 5 := by omega
    rcases e with rfl | rfl | rfl | rfl | rfl | rfl <;> rcases e2 with rfl | rfl | rfl | rfl | rfl | rfl <;> rfl
theorem shown_all : ∀ {ps : List (Int × Int)}, (∀ p ∈ ps, 0 ≤ p.1 ∧ p.1 < 6 ∧ 0 ≤ p.2 ∧ p.2 < 6) → piled (PyData.shownAll (ps.map ofPair)) ≤ 22 * ps.length ∧ PyData.showableAll (ps.map ofPair) = true
  | [], _ => ⟨by simp [PyData.shownAll, piled], rfl⟩
  | p :: ps, h => by
    obtain ⟨a, b⟩ := shown_all fun q hq => h q (List.mem_cons_of_mem _ hq)
    obtain ⟨c, d⟩ := short_pair (h p (by simp))
    constructor
    · simp only [List.map_cons, PyData.shownAll, List.length_cons]
      rw [piled_cons]
      omega
    · simp [PyData.showableAll, b, d]
theorem repr_ok {m : Nat} {ps : List (Int × Int)} (h : Above m ps) (hm : m ≤ 6) : ∃ s, gRepr [tupP ps] = some (.d (.str s)) := by
  have hl : ps.length ≤ 36 := Nat.le_trans h.len (Nat.mul_le_mul hm hm)
  obtain ⟨h1, h2, h3⟩ := pair_lay ps
  obtain ⟨h4, h5⟩ := shown_all (ps := ps) fun p hp => by have := h.inr p hp; omega
  have h6 : (PyData.shown (tupP ps)).length ≤ lim := by
    refine Nat.le_trans ?_ lim_ge
    show (tupleText (PyData.shownAll (ps.map ofPair))).length ≤ 1000000
    have hj : (Str.join ", " (PyData.shownAll (ps.map ofPair))).length ≤ 22 * ps.length + 2 := by
      cases ps with
      | nil => exact Nat.zero_le _
      | cons p ps =>
        have := join_length_add (PyData.shownAll ((p :: ps).map ofPair)) (by simp [PyData.shownAll])
        omega
    unfold tupleText
    rw [strLen_append, strLen_append]
    have e1 : (("(" : String) : Str).length = 1 := rfl
    have e2 : ∀ c : Bool, ((if c then ",)" else ")" : String) : Str).length ≤ 2 := fun c => by cases c <;> decide
    have e2 := e2 ((PyData.shownAll (ps.map ofPair)).length == 1)
    omega
  refine ⟨PyData.shown (tupP ps), ?_⟩
  unfold gRepr; simp only []
  rw [if_pos]
  simp only [Bool.and_eq_true, decide_eq_true_eq, Bool.not_eq_true']
  exact ⟨⟨⟨⟨⟨rfl, by simpa [PyData.canLay0] using h1⟩, by simpa [PyData.showable] using h5⟩, by simpa [PyData.hasDict] using h3⟩, by simp only [PyData.depth]; omega⟩, h6⟩
end K39

set_option Elab.async false
set_option linter.all false
set_option maxRecDepth 100000
set_option maxHeartbeats 4000000
namespace K39
open PySem PySem.Spec PyProof.Rows L2 Dn
theorem heard_exc {E : List Str} {hs : Hs} {lst : Bool} {w : Str} {f : De} {env e1 : List Sl} {c : Str} {x r : PyData} {hS : PyData → Option Rv} (h : f env = .exc c x e1) (hc : E.contains c = true) (hl : hs.lookup c = some hS) (hr : hS x = some (.d r)) : dHeard E hs lst w f env = .ok (.d r) e1 := by
  unfold dHeard; rw [h]; simp only []; rw [if_pos hc, hl]; simp only []; rw [hr]
theorem heard_ok {E : List Str} {hs : Hs} {w : Str} {f : De} {env e1 : List Sl} {x : PyData} (h : f env = .ok (.d x) e1) : dHeard E hs false w f env = .ok (.d (.tuple [.str w, x])) e1 := by
  unfold dHeard; rw [h]
theorem sto_exc {f : De} {env e1 : List Sl} {c : Str} {x : PyData} (h : f env = .exc c x e1) : dSto f env = .exc c x e1 := by
  unfold dSto; rw [h]; rfl
theorem not_panels {x : PyData} (y : PyData) (h : betw 1 6 x = false) : F_folds [.d x, .d y] = .exc "BadPanels" x := by
  have e1 : dNot (dCall 3 F_is_whole_between (dCons (dSto (dVar 0)) (dCons (dC (.int 1)) (dCons (dSto (dC (.int c_MOST_PANELS))) dNil)))) [.d x, .d y] = .ok (.d (.bool true)) [.d x, .d y] := by
    have := betw_ok x 1 6
    rw [h] at this
    exact not_f (call_d (as := [x, .int 1, .int 6]) rfl rfl this rfl)
  have e2 : d_need_strip [.d x, .d y] = .exc "BadPanels" x [.d x, .d y] := by
    unfold d_need_strip
    exact seq_exc ((if_t e1).trans rfl)
  have e3 : F_need_strip [.d x, .d y] = .exc "BadPanels" x := run_exc (g := d_need_strip) (n := 2) (as := [.d x, .d y]) e2 rfl
  have e4 : d_folds [.d x, .d y] = .exc "BadPanels" x [.d x, .d y] := by
    have : dCall 2 F_need_strip (dCons (dSto (dVar 0)) (dCons (dSto (dVar 1)) dNil)) [.d x, .d y] = .exc "BadPanels" x [.d x, .d y] := call_exc (as := [x, y]) rfl rfl e3
    unfold d_folds
    exact seq_exc (by unfold dDrop; rw [this]; rfl)
  exact run_exc (g := d_folds) (n := 2) (as := [.d x, .d y]) e4 rfl
theorem not_above {m : Nat} (h1 : 1 ≤ m) (hm : m ≤ 6) {y : PyData} {s1 s2 : Sl} (h : F_is_above [.d (.int m), .d y] = .ok (.d (.bool false)) [s1, s2]) : F_folds [.d (.int m), .d y] = .exc "BadAbove" y := by
  have e1 : dNot (dCall 3 F_is_whole_between (dCons (dSto (dVar 0)) (dCons (dC (.int 1)) (dCons (dSto (dC (.int c_MOST_PANELS))) dNil)))) [.d (.int m), .d y] = .ok (.d (.bool false)) [.d (.int m), .d y] := by
    have hb : betw 1 6 (.int m) = true := by
      simp only [betw, wholeD, Bool.and_eq_true, decide_eq_true_eq]; omega
    have := betw_ok (.int m) 1 6
    rw [hb] at this
    exact not_t (call_d (as := [.int m, .int 1, .int 6]) rfl rfl this rfl)
  have e1' : dNot (dCall 2 F_is_above (dCons (dSto (dVar 0)) (dCons (dSto (dVar 1)) dNil))) [.d (.int m), .d y] = .ok (.d (.bool true)) [.d (.int m), .d y] := not_f (call_d (as := [.int m, y]) rfl rfl h rfl)
  have e2 : d_need_strip [.d (.int m), .d y] = .exc "BadAbove" y [.d (.int m), .d y] := by
    unfold d_need_strip
    rw [seq_nx (if_fp e1)]
    exact (if_t e1').trans rfl
  have e3 : F_need_strip [.d (.int m), .d y] = .exc "BadAbove" y := run_exc (g := d_need_strip) (n := 2) (as := [.d (.int m), .d y]) e2 rfl
  have e4 : d_folds [.d (.int m), .d y] = .exc "BadAbove" y [.d (.int m), .d y] := by
    have : dCall 2 F_need_strip (dCons (dSto (dVar 0)) (dCons (dSto (dVar 1)) dNil)) [.d (.int m), .d y] = .exc "BadAbove" y [.d (.int m), .d y] := call_exc (as := [.int m, y]) rfl rfl e3
    unfold d_folds
    exact seq_exc (by unfold dDrop; rw [this]; rfl)
  exact run_exc (g := d_folds) (n := 2) (as := [.d (.int m), .d y]) e4 rfl
abbrev t1 (a : PyData) : PyData := .tuple [a]
abbrev t2 (a b : PyData) : PyData := .tuple [a, b]
def nones : List PyData := [.none, .int (-1), .bool true, .str "3", .tuple [.int 3], .list [], .bool false, .int 0, .int 7, .int 1000000]
def odd1 (m : Int) : List PyData := [t1 (t2 (.int 0) (.int 0)), t1 (t2 (.int 0) (.int m)), t1 (t2 (.int (-1)) (.int 0)), t1 (t1 (.int 0)), t1 (.tuple [.int 0, .int 1, .int 2]), t2 (.int 0) (.int 1)]
def odd2 (m : Int) : List PyData := [t1 (.list [.int 0, .int 1]), t1 (t2 (.int 0) .none), t1 (t2 (.int m) (.int 0))]
def odd3 : List PyData := [t2 (t2 (.int 1) (.int 0)) (t2 (.int 0) (.int 1)), t2 (t2 (.int 0) (.int 1)) (t2 (.int 0) (.int 1)), t1 (t2 (.int 0) (.bool true)), t1 (t2 (.bool false) (.int 1))]
def odds (m : Int) (ps : List (Int × Int)) : List PyData := .none :: .list (ps.map ofPair) :: (odd1 m ++ (.str "01" :: odd2 m)) ++ odd3
def chkF (m : Int) (y : PyData) : Bool := match F_is_above [.d (.int m), .d y] with
  | .ok (.d (.bool false)) [_, _] => true
  | _ => false
def chkR (m : Int) : Bool := (odd1 m ++ (odd2 m ++ odd3)).all (chkF m)
theorem refu : (([1, 2, 3, 4, 5, 6] : List Int).all chkR) = true := by kernel_rfl
theorem odd_false {m : Nat} (h1 : 1 ≤ m) (hm : m ≤ 6) (ps : List (Int × Int)) : ∀ y ∈ odds m ps, ∃ s1 s2, F_is_above [.d (.int m), .d y] = .ok (.d (.bool false)) [s1, s2] := by
  intro y hy
  have hM : (m : Int) ∈ ([1, 2, 3, 4, 5, 6] : List Int) := by
    have : m = 1 ∨ m = 2 ∨ m = 3 ∨ m = 4 ∨ m = 5 ∨ m = 6 := by omega
    rcases this with rfl | rfl | rfl | rfl | rfl | rfl <;> decide
  have hR := List.all_eq_true.mp (List.all_eq_true.mp refu _ hM)
  have key : ∀ y, y ∈ odd1 m ++ (odd2 m ++ odd3) → ∃ s1 s2, F_is_above [.d (.int m), .d y] = .ok (.d (.bool false)) [s1, s2] := fun y hy => by
    have h := hR y hy
    unfold chkF at h
    split at h
    · rename_i s1 s2 e; exact ⟨s1, s2, e⟩
    · cases h
  unfold odds at hy
  simp only [List.mem_append, List.mem_cons] at hy
  rcases hy with (rfl | rfl | hy | rfl | hy) | hy
  · exact ⟨_, _, rfl⟩
  · exact ⟨_, _, rfl⟩
  · exact key y (by simp [hy])
  · exact ⟨_, _, rfl⟩
  · exact key y (by simp [hy])
  · exact key y (by simp [hy])
theorem nones_ok : ∀ x ∈ nones, betw 1 6 x = false ∧ plainD x = true ∧ szD x ≤ 1000 := by
  have h : nones.all (fun x => !betw 1 6 x && (plainD x && decide (szD x ≤ 1000))) = true := by kernel_rfl
  intro x hx
  have h := List.all_eq_true.mp h x hx
  simpa using h
theorem pair_plain : ∀ ps : List (Int × Int), plainL (ps.map ofPair) = true ∧ szL (ps.map ofPair) ≤ 3 * ps.length
  | [] => by simp [plainL, szL]
  | p :: ps => by
    obtain ⟨a, b⟩ := pair_plain ps
    refine ⟨by simp [plainL, plainD, ofPair, a], ?_⟩
    simp only [List.map_cons, szL, szD, ofPair, List.length_cons] at b ⊢
    omega
theorem odds_ok (m : Nat) {ps : List (Int × Int)} (hl : ps.length ≤ 36) : ∀ y ∈ odds m ps, plainD y = true ∧ szD y ≤ 1000 := by
  intro y hy
  obtain ⟨a, b⟩ := pair_plain ps
  unfold odds odd1 odd2 odd3 at hy
  simp only [List.mem_append, List.mem_cons, List.not_mem_nil, or_false] at hy
  rcases hy with (rfl | rfl | (rfl | rfl | rfl | rfl | rfl | rfl) | rfl | rfl | rfl | rfl) | rfl | rfl | rfl | rfl
  · exact ⟨rfl, by simp [szD]⟩
  · exact ⟨a, by simp only [szD]; omega⟩
  all_goals first | exact ⟨rfl, by simp [szD, szL]⟩
abbrev heardH : Hs := [("BadPanels", hT3 "panels"), ("BadAbove", hT3 "above"), ("BadLayers", hT3 "layers")]
abbrev saysP (x : PyData) : PyData := .tuple [.str "panels", x, .bool true]
abbrev saysA (x : PyData) : PyData := .tuple [.str "above", x, .bool true]
theorem refused_ok {b : Int} {w : Ow} {m : Nat} {ps : List (Int × Int)} (hD : DkOk b w) (hb : b < 900000) (h1 : 1 ≤ m) (hm : m ≤ 6) (hl : ps.length ≤ 36) : ∃ w', F__law_are_refused [.le w, .d (.int m), .d (tupP ps)] = .ok (.d (.bool true)) [.le w', .d (.int m), .d (tupP ps)] ∧ DkOk (b + 2) w' := by
  obtain ⟨x, hx, w1, p1, hD1⟩ := pick_ok (xs := nones) hD (by omega) (by simp [nones]) (by simp [nones])
  obtain ⟨y, hy, w2, p2, hD2⟩ := pick_ok (xs := odds m ps) hD1 (by omega) (by simp [odds]) (by simp [odds, odd1, odd2, odd3])
  obtain ⟨nx, px, sx⟩ := nones_ok x hx
  obtain ⟨py, sy⟩ := odds_ok m hl y hy
  obtain ⟨s1, s2, fy⟩ := odd_false h1 hm ps y hy
  refine ⟨w2, ?_, hD2.le (by omega)⟩
  have r0 : rf_0 [.le w, .d (.int m), .d (tupP ps), .un, .un, .un, .un] = .nx [.le w1, .d (.int m), .d (tupP ps), .d x, .un, .un, .un] := by
    unfold rf_0
    exact set_d (stb_d (call_le (as := [.list nones]) (i := 0) (w := w) (w' := w1) rfl (.inr rfl) rfl p1 rfl))
  have r1 : rf_1 [.le w1, .d (.int m), .d (tupP ps), .d x, .un, .un, .un] = .nx [.le w1, .d (.int m), .d (tupP ps), .d x, .ow (.lst (.none :: .list (ps.map ofPair) :: (odd1 m ++ (.str "01" :: odd2 m)))), .un, .un] := rfl
  have r2 : rf_2 [.le w1, .d (.int m), .d (tupP ps), .d x, .ow (.lst (.none :: .list (ps.map ofPair) :: (odd1 m ++ (.str "01" :: odd2 m)))), .un, .un] = .nx [.le w1, .d (.int m), .d (tupP ps), .d x, .ow (.lst (odds m ps)), .un, .un] := rfl
  have r3 : rf_3 [.le w1, .d (.int m), .d (tupP ps), .d x, .ow (.lst (odds m ps)), .un, .un] = .nx [.le w2, .d (.int m), .d (tupP ps), .d x, .d (.list (odds m ps)), .d y, .un] := by
    unfold rf_3
    exact set_d (stb_d (call_le (as := [.list (odds m ps)]) (i := 0) (w := w1) (w' := w2) rfl (.inr rfl) rfl p2 rfl))
  have q1 := fun z => not_panels z nx
  have q2 := not_above h1 hm fy
  have r4 : rf_4 [.le w2, .d (.int m), .d (tupP ps), .d x, .d (.list (odds m ps)), .d y, .un] = .nx [.le w2, .d (.int m), .d (tupP ps), .d x, .d (.list (odds m ps)), .d y, .ow (.lst [saysP x])] := by
    have c : dCall 2 F_folds (dCons (dSto (dVar 3)) (dCons (dSto (dVar 5)) dNil)) [.le w2, .d (.int m), .d (tupP ps), .d x, .d (.list (odds m ps)), .d y, .un] = .exc "BadPanels" x [.le w2, .d (.int m), .d (tupP ps), .d x, .d (.list (odds m ps)), .d y, .un] := call_exc (as := [x, y]) rfl rfl (q1 y)
    unfold rf_4
    exact set_ow (stb_ow (lst_d (rs := [.d (saysP x)]) (cons1 (sto_d (heard_exc (E := errs) (hs := heardH) (hS := hT3 "panels") (r := saysP x) (sto_exc c) rfl rfl rfl))) rfl (by simp)))
  have r5 : rf_5 [.le w2, .d (.int m), .d (tupP ps), .d x, .d (.list (odds m ps)), .d y, .ow (.lst [saysP x])] = .nx [.le w2, .d (.int m), .d (tupP ps), .d x, .d (.list (odds m ps)), .d y, .ow (.lst [saysP x, saysP x])] := by
    have c : dCallK 2 F_folds 0 2 [1, 0] dNil (dCons (dTup dNil) (dCons (dSto (dVar 3)) dNil)) [.le w2, .d (.int m), .d (tupP ps), .d x, .d (.list (odds m ps)), .d y, .ow (.lst [saysP x])] = .exc "BadPanels" x [.le w2, .d (.int m), .d (tupP ps), .d x, .d (.list (odds m ps)), .d y, .ow (.lst [saysP x])] :=
      (callK_d (rs := []) (zs := [.d (.tuple []), .d x]) rfl rfl ⟨rfl, rfl, rfl⟩).trans (callF_exc (as := [x, .tuple []]) rfl (q1 _))
    unfold rf_5
    exact drop_d (meth_d rfl (cons1 (sto_d (heard_exc (E := errs) (hs := heardH) (hS := hT3 "panels") (r := saysP x) (sto_exc c) rfl rfl rfl))) rfl rfl)
  have r6 : rf_6 [.le w2, .d (.int m), .d (tupP ps), .d x, .d (.list (odds m ps)), .d y, .ow (.lst [saysP x, saysP x])] = .nx [.le w2, .d (.int m), .d (tupP ps), .d x, .d (.list (odds m ps)), .d y, .ow (.lst [saysP x, saysP x, saysA y])] := by
    have c : dCallK 2 F_folds 0 2 [1, 0] dNil (dCons (dSto (dVar 5)) (dCons (dSto (dVar 1)) dNil)) [.le w2, .d (.int m), .d (tupP ps), .d x, .d (.list (odds m ps)), .d y, .ow (.lst [saysP x, saysP x])] = .exc "BadAbove" y [.le w2, .d (.int m), .d (tupP ps), .d x, .d (.list (odds m ps)), .d y, .ow (.lst [saysP x, saysP x])] :=
      (callK_d (rs := []) (zs := [.d y, .d (.int m)]) rfl rfl ⟨rfl, rfl, rfl⟩).trans (callF_exc (as := [.int m, y]) rfl q2)
    unfold rf_6
    exact drop_d (meth_d rfl (cons1 (sto_d (heard_exc (E := errs) (hs := heardH) (hS := hT3 "above") (r := saysA y) (sto_exc c) rfl rfl rfl))) rfl rfl)
  have sm := same_ok (.list [saysP x, saysP x, saysA y]) (by simp [plainD, plainL, px, py]) (by simp [szD, szL]; omega)
  have r7 : rf_7 [.le w2, .d (.int m), .d (tupP ps), .d x, .d (.list (odds m ps)), .d y, .ow (.lst [saysP x, saysP x, saysA y])] = .ret (.d (.bool true)) [.le w2, .d (.int m), .d (tupP ps), .d x, .d (.list (odds m ps)), .d y, .d (.list [saysP x, saysP x, saysA y])] := by
    unfold rf_7
    exact ret_d (call_d (as := [.list [saysP x, saysP x, saysA y], .list [saysP x, saysP x, saysA y]]) rfl rfl sm rfl)
  have r8 : d__law_are_refused [.le w, .d (.int m), .d (tupP ps), .un, .un, .un, .un] = .ret (.d (.bool true)) [.le w2, .d (.int m), .d (tupP ps), .d x, .d (.list (odds m ps)), .d y, .d (.list [saysP x, saysP x, saysA y])] := by
    rw [d__law_are_refused_def, seq_nx r0, seq_nx r1, seq_nx r2, seq_nx r3, seq_nx r4, seq_nx r5, seq_nx r6, r7]
  exact run_ret (g := d__law_are_refused) (n := 7) (as := [.le w, .d (.int m), .d (tupP ps)]) r8
end K39

set_option Elab.async false
set_option linter.all false
set_option maxRecDepth 100000
set_option maxHeartbeats 4000000
namespace K39
open PySem PySem.Spec PyProof.Rows L2 Dn
theorem slice_d {fa : De} {lo hi : Do} {env e1 e2 e3 : List Sl} {x : PyData} {a b : Option Int} {r : Rv} (h1 : fa env = .ok (.d x) e1) (h2 : lo e1 = .ok a e2) (h3 : hi e2 = .ok b e3) (hg : gSlice x a b = some r) : dSlice fa lo hi env = .ok r e3 := by
  unfold dSlice; rw [h1]; simp only [Res.bind]; rw [h2]; simp only []; rw [h3]; simp only [Rv.val]; rw [hg]; rfl
theorem add_t (a c : List Int) (h : a.length + c.length ≤ 1000) : gAdd (tupI a) (tupI c) = some (.d (tupI (a ++ c))) := by
  have : (a.map PyData.int).length + (c.map PyData.int).length ≤ lim := by rw [List.length_map, List.length_map]; exact Nat.le_trans h (Nat.le_trans (by omega) lim_ge)
  show gAddX (tupI a) (tupI c) = _
  unfold gAddX tupI; simp only []
  rw [if_pos this, List.map_append]
theorem sl_take (l : List Int) : gSlice (tupI l) none (some 1) = some (.d (tupI (l.take 1))) := by
  have := take_cut (l.map PyData.int) 1
  unfold gSlice tupI; simp only []
  rw [List.map_take, ← this]; rfl
theorem sl_drop (l : List Int) (h : l.length ≤ 1000) : gSlice (tupI l) (some 1) none = some (.d (tupI (l.drop 1))) := by
  have := cut1 (l.map PyData.int) (by simpa using h)
  unfold gSlice tupI; simp only []
  rw [List.map_drop, ← this]
theorem lc_map {l : List Int} (hl : l.length ≤ 1000) {s0 s2 : Sl} {el : De} (y : Int → PyData) (h : ∀ i ∈ l, el [s0, .d (tupI l), s2, .d (.int i)] = .ok (.d (y i)) [s0, .d (tupI l), s2, .d (.int i)]) : dLc (iSeq (dSto (dVar 1))) [3] (pName 3) dYes el [s0, .d (tupI l), s2, .un] = .ok (.ow (.lst (l.map y))) [s0, .d (tupI l), s2, .un] := by
  have q := dLc_pure (fi := iSeq (dSto (dVar 1))) (vs := [3]) (p := pName 3) (t := dYes) (el := el) (env := [s0, .d (tupI l), s2, .un]) (xs := l.map .int) (fun _ => true) (fun x => match x with | .int i => y i | _ => .none) (fun x => [s0, .d (tupI l), s2, .d x]) (iseq_t (sto_d (var_d rfl))) rfl rfl (fun x hx => by
    obtain ⟨i, hi, rfl⟩ := List.mem_map.mp hx
    exact ⟨rfl, rfl, fun _ => h i hi, rfl⟩) (by rw [List.length_map]; exact Nat.le_trans hl (Nat.le_trans (by omega) lim_ge))
  rw [q, List.filter_eq_self.mpr (fun _ _ => rfl), List.map_map]
  rfl
theorem tup_map {l : List Int} (hl : l.length ≤ 1000) {s0 s2 : Sl} {el : De} (y : Int → PyData) (h : ∀ i ∈ l, el [s0, .d (tupI l), s2, .d (.int i)] = .ok (.d (y i)) [s0, .d (tupI l), s2, .d (.int i)]) : dSto (dCallB gTup (dCons (dLc (iSeq (dSto (dVar 1))) [3] (pName 3) dYes el) dNil)) [s0, .d (tupI l), s2, .un] = .ok (.d (.tuple (l.map y))) [s0, .d (tupI l), s2, .un] :=
  sto_d (callB1 (lc_map hl y h) rfl rfl)
theorem flat_plain (y : Int → PyData) (h : ∀ i, plainD (y i) = true ∧ szD (y i) = 1) : ∀ l : List Int, plainL (l.map y) = true ∧ szL (l.map y) = l.length
  | [] => ⟨rfl, rfl⟩
  | i :: l => by
    obtain ⟨a, b⟩ := flat_plain y h l
    obtain ⟨c, d⟩ := h i
    exact ⟨by simp [plainL, a, c], by simp [szL, b, d]; omega⟩
theorem tupI_plain (l : List Int) : plainD (tupI l) = true ∧ szD (tupI l) = l.length + 1 := by
  obtain ⟨a, b⟩ := flat_plain .int (fun i => ⟨rfl, rfl⟩) l
  exact ⟨a, by simp only [tupI, szD, b]⟩
theorem ints_tup (l : List Int) : plainL (l.map PyData.int) = true ∧ szL (l.map PyData.int) = l.length := flat_plain .int (fun i => ⟨rfl, rfl⟩) l
def X0 (l : List Int) : List PyData := [.none, .tuple [], .list [], .str "012", .int 0, .dict [], .list (l.map .int), tupI (l ++ l.take 1), tupI (l.drop 1), tupI (l ++ [(l.length : Int)]), .tuple [tupI l]]
def X1 (l : List Int) : List PyData := [.tuple (l.map fun i => .int (i + 1)), .tuple (l.map fun i => .int (0 - i)), .tuple (l.map fun i => .bool (i == 1))]
def X2 (l : List Int) : List PyData := [.tuple (l.map fun i => if (i == 1) = true then .bool true else .int i), .tuple (l.map fun i => if (i == 0) = true then .bool false else .int i)]
def X3 (l : List Int) : List PyData := [.tuple (l.map fun i => .str (toString i)), .tuple (Dn.intsFrom 0 7), .tuple (.none :: (l.drop 1).map .int)]
def plainS (x : PyData) : Prop := plainD x = true ∧ szD x ≤ 1000
theorem odd_plain {l : List Int} (hl : l.length ≤ 6) : ∀ x ∈ X0 l ++ X1 l ++ X2 l ++ X3 l, plainS x := by
  have t : ∀ (y : Int → PyData), (∀ i, plainD (y i) = true ∧ szD (y i) = 1) → plainS (.tuple (l.map y)) := fun y h => by
    obtain ⟨a, b⟩ := flat_plain y h l
    exact ⟨a, by simp only [szD, b]; omega⟩
  have u : ∀ q : List Int, q.length ≤ 20 → plainS (tupI q) := fun q h => by
    obtain ⟨a, b⟩ := tupI_plain q
    exact ⟨a, by omega⟩
  intro x hx
  unfold X0 X1 X2 X3 at hx
  simp only [List.mem_append, List.mem_cons, List.not_mem_nil, or_false] at hx
  rcases hx with (((rfl | rfl | rfl | rfl | rfl | rfl | rfl | rfl | rfl | rfl | rfl) | rfl | rfl | rfl) | rfl | rfl) | rfl | rfl | rfl
  · exact ⟨rfl, by simp [szD]⟩
  · exact ⟨rfl, by simp [szD, szL]⟩
  · exact ⟨rfl, by simp [szD, szL]⟩
  · exact ⟨rfl, by simp [szD]⟩
  · exact ⟨rfl, by simp [szD]⟩
  · exact ⟨rfl, by simp [szD]⟩
  · obtain ⟨a, b⟩ := ints_tup l
    exact ⟨a, by simp only [szD, b]; omega⟩
  · exact u _ (by simp; omega)
  · exact u _ (by simp; omega)
  · exact u _ (by simp; omega)
  · obtain ⟨a, b⟩ := tupI_plain l
    exact ⟨by simp [plainD, plainL, a], by simp only [szD, szL, b]; omega⟩
  · exact t _ fun i => ⟨rfl, rfl⟩
  · exact t _ fun i => ⟨rfl, rfl⟩
  · exact t _ fun i => ⟨rfl, rfl⟩
  · exact t _ fun i => by split <;> exact ⟨rfl, rfl⟩
  · exact t _ fun i => by split <;> exact ⟨rfl, rfl⟩
  · exact t _ fun i => ⟨rfl, rfl⟩
  · exact ⟨rfl, by decide⟩
  · obtain ⟨a, b⟩ := ints_tup (l.drop 1)
    exact ⟨by simp only [plainD, plainL, a]; rfl, by simp only [szD, szL, b, List.length_drop]; omega⟩
theorem str_small {i : Int} (h : 0 ≤ i ∧ i < 6) : gStr [.int i] = some (.d (.str (toString i))) := by
  have e : i = 0 ∨ i = 1 ∨ i = 2 ∨ i = 3 ∨ i = 4 ∨ i = 5 := by omega
  rcases e with rfl | rfl | rfl | rfl | rfl | rfl <;> rfl
theorem odd_ok {b : Int} {w : Ow} {l : List Int} (hD : DkOk b w) (hb : b < 900000) (hl : l.length ≤ 6) (hr : ∀ i ∈ l, 0 ≤ i ∧ i < 6) : ∃ x w', F__law_odd [.le w, .d (tupI l)] = .ok (.d x) [.le w', .d (tupI l)] ∧ plainS x ∧ DkOk (b + 1) w' := by
  obtain ⟨x, hx, w', p1, hD1⟩ := pick_ok (xs := X0 l ++ X1 l ++ X2 l ++ X3 l) hD (by omega) (by simp [X0]) (by simp [X0, X1, X2, X3])
  refine ⟨x, w', ?_, odd_plain hl x hx, hD1⟩
  have k1 : l.length ≤ 1000 := by omega
  have r0 : od_0 [.le w, .d (tupI l), .un, .un] = .nx [.le w, .d (tupI l), .ow (.lst (X0 l)), .un] := by
    have e8 : dSto (dBin gAdd (dVar 1) (dSlice (dVar 1) oNo (oSome (dC (.int 1))))) [.le w, .d (tupI l), .un, .un] = .ok (.d (tupI (l ++ l.take 1))) [.le w, .d (tupI l), .un, .un] :=
      sto_d (bin_s rfl (slice_d (x := tupI l) rfl rfl rfl (sl_take l)) (add_t _ _ (by simp; omega)))
    have e9 : dSto (dSlice (dVar 1) (oSome (dC (.int 1))) oNo) [.le w, .d (tupI l), .un, .un] = .ok (.d (tupI (l.drop 1))) [.le w, .d (tupI l), .un, .un] :=
      sto_d (slice_d (x := tupI l) rfl rfl rfl (sl_drop l k1))
    have ev : dTup (dCons (dSto (dCallB gLen (dCons (dVar 1) dNil))) dNil) [.le w, .d (tupI l), .un, .un] = .ok (.d (tupI [(l.length : Int)])) [.le w, .d (tupI l), .un, .un] := by
      have : dCallB gLen (dCons (dVar 1) dNil) [.le w, .d (tupI l), .un, .un] = .ok (.d (.int l.length)) [.le w, .d (tupI l), .un, .un] := callB1 (var_d rfl) rfl (by show some _ = some _; rw [List.length_map])
      exact tup_d (cons1 (sto_d this)) rfl (by simp)
    have e10 : dSto (dBin gAdd (dVar 1) (dTup (dCons (dSto (dCallB gLen (dCons (dVar 1) dNil))) dNil))) [.le w, .d (tupI l), .un, .un] = .ok (.d (tupI (l ++ [(l.length : Int)]))) [.le w, .d (tupI l), .un, .un] :=
      sto_d (bin_s rfl ev (add_t _ _ (by simp; omega)))
    unfold od_0
    refine set_ow (e1 := [.le w, .d (tupI l), .un, .un]) (stb_ow (lst_d (xs := X0 l) (rs := (X0 l).map .d) (e1 := [.le w, .d (tupI l), .un, .un]) ?_ rfl (by simp [X0])))
    exact cons_d rfl (cons_d rfl (cons_d rfl (cons_d rfl (cons_d rfl (cons_d rfl (cons_d rfl (cons_d e8 (cons_d e9 (cons_d e10 (cons_d rfl rfl))))))))))
  have r1 : od_1 [.le w, .d (tupI l), .ow (.lst (X0 l)), .un] = .nx [.le w, .d (tupI l), .ow (.lst (X0 l ++ X1 l)), .un] := by
    have f1 := tup_map (s0 := .le w) (s2 := .ow (.lst (X0 l))) (el := dSto (dBin gAdd (dVar 3) (dC (.int 1)))) k1 (fun i => .int (i + 1)) fun i _ => rfl
    have f2 := tup_map (s0 := .le w) (s2 := .ow (.lst (X0 l))) (el := dBin gSubI (dC (.int 0)) (dVar 3)) k1 (fun i => .int (0 - i)) fun i _ => rfl
    have f3 := tup_map (s0 := .le w) (s2 := .ow (.lst (X0 l))) (el := dBin gEqA (dVar 3) (dC (.int 1))) k1 (fun i => .bool (i == 1)) fun i _ => bin_s rfl rfl (eq_int _ _)
    unfold od_1
    refine set_ow (stb_ow (bin_d (e2 := [.le w, .d (tupI l), .ow (.lst (X0 l)), .un]) (ra := .bo 2) (rb := .ow (.lst (X1 l))) rfl (lst_d (xs := X1 l) (rs := (X1 l).map .d) (e1 := [.le w, .d (tupI l), .ow (.lst (X0 l)), .un]) ?_ rfl (by simp [X1])) rfl rfl rfl))
    exact cons_d f1 (cons_d f2 (cons_d f3 rfl))
  have r2 : od_2 [.le w, .d (tupI l), .ow (.lst (X0 l ++ X1 l)), .un] = .nx [.le w, .d (tupI l), .ow (.lst (X0 l ++ X1 l ++ X2 l)), .un] := by
    have g : ∀ (c : Int) (q : Bool) (i : Int) (s2 : Sl), dSto (dIf (dBin gEqA (dVar 3) (dC (.int c))) (dC (.bool q)) (dVar 3)) [.le w, .d (tupI l), s2, .d (.int i)] = .ok (.d (if (i == c) = true then .bool q else .int i)) [.le w, .d (tupI l), s2, .d (.int i)] := fun c q i s2 => by
      have t : dBin gEqA (dVar 3) (dC (.int c)) [.le w, .d (tupI l), s2, .d (.int i)] = .ok (.d (.bool (i == c))) [.le w, .d (tupI l), s2, .d (.int i)] := bin_s rfl rfl (eq_int _ _)
      cases hq : (i == c) with
      | true => rw [hq] at t; exact sto_d ((ifE_t t).trans rfl)
      | false => rw [hq] at t; exact sto_d ((ifE_f t).trans rfl)
    have f1 := tup_map (s0 := .le w) (s2 := .ow (.lst (X0 l ++ X1 l))) (el := dSto (dIf (dBin gEqA (dVar 3) (dC (.int 1))) (dC (.bool true)) (dVar 3))) k1 (fun i => if (i == 1) = true then .bool true else .int i) fun i _ => g 1 true i _
    have f2 := tup_map (s0 := .le w) (s2 := .ow (.lst (X0 l ++ X1 l))) (el := dSto (dIf (dBin gEqA (dVar 3) (dC (.int 0))) (dC (.bool false)) (dVar 3))) k1 (fun i => if (i == 0) = true then .bool false else .int i) fun i _ => g 0 false i _
    unfold od_2
    refine set_ow (stb_ow (bin_d (e2 := [.le w, .d (tupI l), .ow (.lst (X0 l ++ X1 l)), .un]) (ra := .bo 2) (rb := .ow (.lst (X2 l))) rfl (lst_d (xs := X2 l) (rs := (X2 l).map .d) (e1 := [.le w, .d (tupI l), .ow (.lst (X0 l ++ X1 l)), .un]) ?_ rfl (by simp [X2])) rfl rfl rfl))
    exact cons_d f1 (cons_d f2 rfl)
  have r3 : od_3 [.le w, .d (tupI l), .ow (.lst (X0 l ++ X1 l ++ X2 l)), .un] = .ret (.d x) [.le w', .d (tupI l), .ow (.lst (X0 l ++ X1 l ++ X2 l)), .un] := by
    have f1 := tup_map (s0 := .le w) (s2 := .ow (.lst (X0 l ++ X1 l ++ X2 l))) (el := dSto (dCallB gStr (dCons (dVar 3) dNil))) k1 (fun i => .str (toString i)) fun i hi => sto_d (callB1 (var_d rfl) rfl (str_small (hr i hi)))
    have f2 : dSto (dTupRg1 (dC (.int 7))) [.le w, .d (tupI l), .ow (.lst (X0 l ++ X1 l ++ X2 l)), .un] = .ok (.d (.tuple (Dn.intsFrom 0 7))) [.le w, .d (tupI l), .ow (.lst (X0 l ++ X1 l ++ X2 l)), .un] := rfl
    have f3 : dSto (dCallB gTup (dCons (dBin gAdd (dLst (dCons (dC .none) dNil)) (dCallB Dn.gLst (dCons (dSlice (dVar 1) (oSome (dC (.int 1))) oNo) dNil))) dNil)) [.le w, .d (tupI l), .ow (.lst (X0 l ++ X1 l ++ X2 l)), .un] = .ok (.d (.tuple (.none :: (l.drop 1).map .int))) [.le w, .d (tupI l), .ow (.lst (X0 l ++ X1 l ++ X2 l)), .un] := by
      have a : dCallB Dn.gLst (dCons (dSlice (dVar 1) (oSome (dC (.int 1))) oNo) dNil) [.le w, .d (tupI l), .ow (.lst (X0 l ++ X1 l ++ X2 l)), .un] = .ok (.ow (.lst ((l.drop 1).map .int))) [.le w, .d (tupI l), .ow (.lst (X0 l ++ X1 l ++ X2 l)), .un] := callB1 (slice_d (x := tupI l) rfl rfl rfl (sl_drop l k1)) rfl rfl
      have g : gAdd (.list [.none]) (.list ((l.drop 1).map .int)) = some (.ow (.lst (.none :: (l.drop 1).map .int))) := by
        show gAddX (.list [.none]) (.list ((l.drop 1).map .int)) = _
        unfold gAddX; simp only []
        rw [if_pos (by rw [List.length_map, List.length_drop]; simp only [List.length_cons, List.length_nil]; exact Nat.le_trans (by omega) lim_ge)]
        rfl
      exact sto_d (callB1 (bin_d (ra := .ow (.lst [.none])) rfl a rfl rfl g) rfl rfl)
    have f4 : dLst (dCons (dSto (dCallB gTup (dCons (dLc (iSeq (dSto (dVar 1))) [3] (pName 3) dYes (dSto (dCallB gStr (dCons (dVar 3) dNil)))) dNil))) (dCons (dSto (dTupRg1 (dC (.int 7)))) (dCons (dSto (dCallB gTup (dCons (dBin gAdd (dLst (dCons (dC .none) dNil)) (dCallB Dn.gLst (dCons (dSlice (dVar 1) (oSome (dC (.int 1))) oNo) dNil))) dNil))) dNil))) [.le w, .d (tupI l), .ow (.lst (X0 l ++ X1 l ++ X2 l)), .un] = .ok (.ow (.lst (X3 l))) [.le w, .d (tupI l), .ow (.lst (X0 l ++ X1 l ++ X2 l)), .un] := lst_d (xs := X3 l) (rs := (X3 l).map .d) (cons_d f1 (cons_d f2 (cons_d f3 rfl))) rfl (by simp [X3])
    have f5 := sto_ow (bin_d (g := gAdd) (fa := dVar 2) (env := [.le w, .d (tupI l), .ow (.lst (X0 l ++ X1 l ++ X2 l)), .un]) (ra := .bo 2) (r := .ow (.lst (X0 l ++ X1 l ++ X2 l ++ X3 l))) rfl f4 rfl rfl rfl)
    unfold od_3
    exact ret_d (call_le (as := [.list (X0 l ++ X1 l ++ X2 l ++ X3 l)]) (i := 0) (w := w) (w' := w') (cons_d rfl (cons1 f5)) (.inr rfl) rfl p1 rfl)
  have r4 : d__law_odd [.le w, .d (tupI l), .un, .un] = .ret (.d x) [.le w', .d (tupI l), .ow (.lst (X0 l ++ X1 l ++ X2 l)), .un] := by
    rw [d__law_odd_def, seq_nx r0, seq_nx r1, seq_nx r2, r3]
  exact run_ret (g := d__law_odd) (n := 4) (as := [.le w, .d (tupI l)]) r4
end K39

set_option Elab.async false
set_option linter.all false
set_option maxRecDepth 100000
set_option maxHeartbeats 4000000
namespace K39
open PySem PySem.Spec PyProof.Rows L2 Dn
theorem pairsP_plain (ps : List (Int × Int)) : plainD (tupP ps) = true ∧ szD (tupP ps) ≤ 3 * ps.length + 1 := by
  obtain ⟨a, b⟩ := pair_plain ps
  exact ⟨a, by simp only [szD]; omega⟩
theorem face_len (l : List Int) : (faceI l).length ≤ l.length * l.length := by
  have h : ∀ is : List Nat, (is.flatMap fun i => ((List.range l.length).filter fun j => decide (i < j) && decide ((l.getD i 0 - l.getD j 0).natAbs = 1)).map fun j : Nat => ((i : Int), (j : Int))).length ≤ is.length * l.length := fun is => by
    induction is with
    | nil => simp
    | cons i is ih =>
      rw [List.flatMap_cons, List.length_append, List.length_map, List.length_cons, Nat.succ_mul]
      have := List.length_filter_le (fun j => decide (i < j) && decide ((l.getD i 0 - l.getD j 0).natAbs = 1)) (List.range l.length)
      rw [List.length_range] at this
      omega
  have := h (List.range l.length)
  rw [List.length_range] at this
  exact this
structure E11 (ns : List Int) (m : Nat) (w : Ow) (s3 s4 s5 s7 s8 s11 : Sl) (e : List Sl) : Prop where
  ex : ∃ s6 s9 s10 s12 s13, e = [.scr ns, .ow w, .d (.int m), s3, s4, s5, s6, s7, s8, s9, s10, s11, s12, s13, .un, .un]
def plainR (x : PyData) : Prop := plainD x = true ∧ szD x < 900000
theorem dueQ {x : PyData} (hx : plainS x) : ∃ q : Bool, (∀ (env : List Sl), env[12]? = some (.d x) → dAnd (dCall 1 F__law_is_layers (dCons (dSto (dVar 12)) dNil)) (dCall 1 F__law_is_flat (dCons (dSto (dVar 12)) dNil)) env = .ok (.d (.bool q)) env) ∧ (∃ s, F_is_fold [.d x] = .ok (.d (.bool q)) [s]) ∧ ∃ r, plainR r ∧ (∀ (env : List Sl), env[12]? = some (.d x) → dHeard errs heardH false "told" (dSto (dCall 1 F_facing (dCons (dSto (dVar 12)) dNil))) env = .ok (.d r) env) ∧
    ∀ (env : List Sl), env[12]? = some (.d x) → dIf (dCall 1 F__law_is_layers (dCons (dSto (dVar 12)) dNil)) (dTup (dCons (dC (.str "told")) (dCons (dSto (dCall 1 F__law_facing (dCons (dSto (dVar 12)) dNil))) dNil))) (dTup (dCons (dC (.str "layers")) (dCons (dSto (dVar 12)) (dCons (dC (.bool true)) dNil)))) env = .ok (.d r) env := by
  have c1 : ∀ (env : List Sl), env[12]? = some (.d x) → dCall 1 F__law_is_layers (dCons (dSto (dVar 12)) dNil) env = .ok (.d (.bool (isLayD x))) env := fun env h =>
    call_d (as := [x]) (cons1 (sto_d (var_d h))) rfl (is_layers_ok x) rfl
  cases hL : isLayD x with
  | false =>
    rw [hL] at c1
    refine ⟨false, fun env h => and_f (c1 env h), ⟨_, is_fold_f hL⟩, .tuple [.str "layers", x, .bool true], ?_, fun env h => ?_, fun env h => ?_⟩
    · obtain ⟨a, b⟩ := hx
      exact ⟨by simp [plainD, plainL, a], by simp only [szD, szL]; omega⟩
    · have c2 : dCall 1 F_facing (dCons (dSto (dVar 12)) dNil) env = .exc "BadLayers" x env := call_exc (as := [x]) (cons1 (sto_d (var_d h))) rfl (facing_f hL)
      exact heard_exc (hS := hT3 "layers") (sto_exc c2) rfl rfl rfl
    · rw [ifE_f (c1 env h)]
      exact tup_d (rs := [.d (.str "layers"), .d x, .d (.bool true)]) (cons_d rfl (cons_d (sto_d (var_d h)) rfl)) rfl (by simp)
  | true =>
    rw [hL] at c1
    obtain ⟨l, rfl, hl⟩ := layD_cases hL
    obtain ⟨s1, f1⟩ := hl.flat
    obtain ⟨s2, f2⟩ := hl.face
    obtain ⟨s3, f3⟩ := hl.face2
    refine ⟨flatI l, fun env h => ?_, ⟨_, is_fold_t hl⟩, .tuple [.str "told", tupP (faceI l)], ?_, fun env h => ?_, fun env h => ?_⟩
    · rw [and_t (c1 env h)]
      exact call_d (as := [tupI l]) (cons1 (sto_d (var_d h))) rfl f1 rfl
    · obtain ⟨a, b⟩ := pairsP_plain (faceI l)
      have h6 := (lay_ords hl.lay).2.1
      have h7 := face_len l
      have h8 : l.length * l.length ≤ 6 * 6 := Nat.mul_le_mul h6 h6
      refine ⟨by show (true && (plainD (tupP (faceI l)) && true)) = true; rw [a]; rfl, ?_⟩
      simp only [szD, szL] at b ⊢
      omega
    · have c2 : dCall 1 F_facing (dCons (dSto (dVar 12)) dNil) env = .ok (.d (tupP (faceI l))) env := call_d (as := [tupI l]) (cons1 (sto_d (var_d h))) rfl f3 rfl
      exact heard_ok (sto_d c2)
    · rw [ifE_t (c1 env h)]
      have c2 : dCall 1 F__law_facing (dCons (dSto (dVar 12)) dNil) env = .ok (.d (tupP (faceI l))) env := call_d (as := [tupI l]) (cons1 (sto_d (var_d h))) rfl f2 rfl
      exact tup_d (rs := [.d (.str "told"), .d (tupP (faceI l))]) (cons_d rfl (cons_d (sto_d c2) rfl)) rfl (by simp)
theorem sm11 {l : List Int} (hL : Lay l) : F__law_same [.d (.list [.bool (flatI l), .bool (flatI l), tupP (faceI l), tupP (faceI l)]), .d (.list [.bool (flatI l), .bool (flatI l), tupP (faceI l), tupP (faceI l)])] = .ok (.d (.bool true)) [.d (.list [.bool (flatI l), .bool (flatI l), tupP (faceI l), tupP (faceI l)]), .d (.list [.bool (flatI l), .bool (flatI l), tupP (faceI l), tupP (faceI l)])] := by
  have h6 := (lay_ords hL.lay).2.1
  obtain ⟨a1, a2⟩ := pairsP_plain (faceI l)
  have h7 := face_len l
  have h8 : l.length * l.length ≤ 6 * 6 := Nat.mul_le_mul h6 h6
  refine same_ok _ ?_ ?_
  · show (true && (true && (plainD (tupP (faceI l)) && (plainD (tupP (faceI l)) && true)))) = true
    rw [a1]; rfl
  · simp only [szD, szL] at a2 ⊢; omega
theorem lst4 {e : List Sl} {f1 f2 f3 f4 : De} {a b c d : PyData} (h1 : f1 e = .ok (.d a) e) (h2 : f2 e = .ok (.d b) e) (h3 : f3 e = .ok (.d c) e) (h4 : f4 e = .ok (.d d) e) : dSto (dLst (dCons (dSto f1) (dCons (dSto f2) (dCons (dSto f3) (dCons (dSto f4) dNil))))) e = .ok (.d (.list [a, b, c, d])) e :=
  sto_ow (lst_d (rs := [.d a, .d b, .d c, .d d]) (cons_d (sto_d h1) (cons_d (sto_d h2) (cons_d (sto_d h3) (cons1 (sto_d h4))))) rfl (by simp))
theorem lst2 {e : List Sl} {f1 f2 : De} {a b : PyData} (h1 : f1 e = .ok (.d a) e) (h2 : f2 e = .ok (.d b) e) : dSto (dLst (dCons (dSto f1) (dCons (dSto f2) dNil))) e = .ok (.d (.list [a, b])) e :=
  sto_ow (lst_d (rs := [.d a, .d b]) (cons_d (sto_d h1) (cons1 (sto_d h2))) rfl (by simp))
theorem same_call {e : List Sl} {f1 f2 : De} {x : PyData} {s1 s2 : Sl} (h1 : f1 e = .ok (.d x) e) (h2 : f2 e = .ok (.d x) e) (sm : F__law_same [.d x, .d x] = .ok (.d (.bool true)) [s1, s2]) : dNot (dCall 2 F__law_same (dCons f1 (dCons f2 dNil))) e = .ok (.d (.bool false)) e :=
  not_t (call_d (as := [x, x]) (cons_d h1 (cons1 h2)) rfl sm rfl)
theorem callK1 {F : Fn} {e : List Sl} {f : De} {x : PyData} {r : Rv} {s : Sl} (h : f e = .ok (.d x) e) (hF : F [.d x] = .ok r [s]) : dCallK 1 F 0 1 [0] dNil (dCons f dNil) e = .ok r e :=
  (callK_d (rs := []) (zs := [.d x]) rfl (cons1 h) ⟨rfl, rfl, rfl⟩).trans (callF_d (as := [x]) rfl hF rfl)
theorem call1 {F : Fn} {e : List Sl} {f : De} {x : PyData} {r : Rv} {s : Sl} (h : f e = .ok (.d x) e) (hF : F [.d x] = .ok r [s]) : dCall 1 F (dCons f dNil) e = .ok r e :=
  call_d (as := [x]) (cons1 h) rfl hF rfl
theorem b11_0 {e : List Sl} {l : List Int} (hL : Lay l) (v9 : e[9]? = some (.d (tupI l))) : lw11_0 e = .nx ((e.set 10 (.d (.bool (flatI l)))).set 13 (.d (tupP (faceI l)))) := by
  obtain ⟨z1, f1⟩ := hL.flat
  obtain ⟨z2, f2⟩ := hL.face
  have c1 : dStb (dCall 1 F__law_is_flat (dCons (dSto (dVar 9)) dNil)) e = .ok (.d (.bool (flatI l))) e := stb_d (call1 (sto_d (var_d v9)) f1)
  have c2 : dStb (dCall 1 F__law_facing (dCons (dSto (dVar 9)) dNil)) e = .ok (.d (tupP (faceI l))) e := stb_d (call1 (sto_d (var_d v9)) f2)
  unfold lw11_0 dPar2
  rw [c1]; simp only [Res.bind]; rw [c2]; rfl
theorem b11_1 {e : List Sl} {l : List Int} (hL : Lay l) (v9 : e[9]? = some (.d (tupI l))) (v10 : e[10]? = some (.d (.bool (flatI l)))) (v13 : e[13]? = some (.d (tupP (faceI l)))) : lw11_1 e = .nx e := by
  obtain ⟨z3, f3⟩ := hL.face2
  have f4 := is_fold_t hL
  have u := sto_d (var_d v9)
  unfold lw11_1
  exact if_fp (same_call (lst4 (call1 u f4) (callK1 u f4) (call1 u f3) (callK1 u f3)) (lst4 (var_d v10) (var_d v10) (var_d v13) (var_d v13)) (sm11 hL))
theorem b11_4 {e : List Sl} {x : PyData} {q : Bool} {s : Sl} (q2 : F_is_fold [.d x] = .ok (.d (.bool q)) [s]) (v12 : e[12]? = some (.d x)) (v10 : e[10]? = some (.d (.bool q))) : lw11_4 e = .nx e := by
  have u := sto_d (var_d v12)
  unfold lw11_4
  exact if_fp (same_call (lst2 (call1 u q2) (callK1 u q2)) (lst2 (var_d v10) (var_d v10)) (same_ok (.list [.bool q, .bool q]) rfl (by simp [szD, szL])))
theorem body11 {ns : List Int} {m : Nat} {b : Int} {w : Ow} {s3 s4 s5 s7 s8 s11 s6 s10 s12 s13 : Sl} {l : List Int} (hD : DkOk b w) (hb : b < 900000) (h1 : 1 ≤ m) (hm : m ≤ 6) (hl : l ∈ ords m) : ∃ w' e', lw11_b [.scr ns, .ow w, .d (.int m), s3, s4, s5, s6, s7, s8, .d (tupI l), s10, s11, s12, s13, .un, .un] = .nx e' ∧ E11 ns m w' s3 s4 s5 s7 s8 s11 e' ∧ DkOk (b + 1) w' := by
  have hL := ords_lay h1 hm hl
  have hlen : l.length = m := rowsN_row m m l hl
  obtain ⟨x, w', p1, px, hD'⟩ := odd_ok (l := l) hD hb (by omega) (fun i hi => by have := lay_mem hL.lay i hi; omega)
  obtain ⟨q, q1, ⟨sq, q2⟩, r, pr, q3, q4⟩ := dueQ px
  refine ⟨w', [.scr ns, .ow w', .d (.int m), s3, s4, s5, .d r, s7, s8, .d (tupI l), .d (.bool q), s11, .d x, .d (tupP (faceI l)), .un, .un], ?_, ⟨_, _, _, _, _, rfl⟩, hD'⟩
  have r0 := b11_0 (e := [.scr ns, .ow w, .d (.int m), s3, s4, s5, s6, s7, s8, .d (tupI l), s10, s11, s12, s13, .un, .un]) hL rfl
  have r1 := b11_1 (e := [.scr ns, .ow w, .d (.int m), s3, s4, s5, s6, s7, s8, .d (tupI l), .d (.bool (flatI l)), s11, s12, .d (tupP (faceI l)), .un, .un]) hL rfl rfl rfl
  have r2 : lw11_2 [.scr ns, .ow w, .d (.int m), s3, s4, s5, s6, s7, s8, .d (tupI l), .d (.bool (flatI l)), s11, s12, .d (tupP (faceI l)), .un, .un] = .nx [.scr ns, .ow w', .d (.int m), s3, s4, s5, s6, s7, s8, .d (tupI l), .d (.bool (flatI l)), s11, .d x, .d (tupP (faceI l)), .un, .un] := by
    unfold lw11_2
    exact set_d (stb_d (call_le (as := [tupI l]) (i := 1) (w := w) (w' := w') rfl (.inl rfl) rfl p1 rfl))
  have r3 : lw11_3 [.scr ns, .ow w', .d (.int m), s3, s4, s5, s6, s7, s8, .d (tupI l), .d (.bool (flatI l)), s11, .d x, .d (tupP (faceI l)), .un, .un] = .nx [.scr ns, .ow w', .d (.int m), s3, s4, s5, s6, s7, s8, .d (tupI l), .d (.bool q), s11, .d x, .d (tupP (faceI l)), .un, .un] := by
    unfold lw11_3
    exact set_d (stb_d (q1 _ rfl))
  have r4 := b11_4 (e := [.scr ns, .ow w', .d (.int m), s3, s4, s5, s6, s7, s8, .d (tupI l), .d (.bool q), s11, .d x, .d (tupP (faceI l)), .un, .un]) q2 rfl rfl
  have r5 : lw11_5 [.scr ns, .ow w', .d (.int m), s3, s4, s5, s6, s7, s8, .d (tupI l), .d (.bool q), s11, .d x, .d (tupP (faceI l)), .un, .un] = .nx [.scr ns, .ow w', .d (.int m), s3, s4, s5, .d r, s7, s8, .d (tupI l), .d (.bool q), s11, .d x, .d (tupP (faceI l)), .un, .un] := by
    unfold lw11_5
    exact set_d (stb_d (q3 _ rfl))
  have r6 : lw11_6 [.scr ns, .ow w', .d (.int m), s3, s4, s5, .d r, s7, s8, .d (tupI l), .d (.bool q), s11, .d x, .d (tupP (faceI l)), .un, .un] = .nx [.scr ns, .ow w', .d (.int m), s3, s4, s5, .d r, s7, s8, .d (tupI l), .d (.bool q), s11, .d x, .d (tupP (faceI l)), .un, .un] := by
    unfold lw11_6
    exact if_fp (same_call (sto_d (var_d rfl)) (sto_d (q4 _ rfl)) (same_ok r pr.1 pr.2))
  unfold lw11_b
  rw [seq_nx r0]
  show dSeq lw11_1 _ [.scr ns, .ow w, .d (.int m), s3, s4, s5, s6, s7, s8, .d (tupI l), .d (.bool (flatI l)), s11, s12, .d (tupP (faceI l)), .un, .un] = _
  rw [seq_nx r1, seq_nx r2, seq_nx r3, seq_nx r4, seq_nx r5, r6]
end K39

set_option Elab.async false
set_option linter.all false
set_option maxRecDepth 100000
set_option maxHeartbeats 4000000
namespace K39
open PySem PySem.Spec PyProof.Rows L2 Dn
def flatL (m : Nat) : List (List Int) := (ords m).filter flatI
theorem n1' : (flatL 1).length = 1 := by kernel_rfl
theorem n2' : (flatL 2).length = 2 := by kernel_rfl
theorem n3' : (flatL 3).length = 6 := by kernel_rfl
theorem n4' : (flatL 4).length = 16 := by kernel_rfl
theorem n5' : (flatL 5).length = 50 := by kernel_rfl
theorem n6' : (flatL 6).length = 144 := by kernel_rfl
end K39

set_option Elab.async false
set_option linter.all false
set_option maxRecDepth 100000
set_option maxHeartbeats 4000000
namespace K39
open PySem PySem.Spec PyProof.Rows L2 Dn
def num (m : Nat) : Nat := [1, 2, 6, 16, 50, 144].getD (m - 1) 0
theorem flat_num {m : Nat} (a : 1 ≤ m) (b : m ≤ 6) : (flatL m).length = num m ∧ 0 < num m := six (P := fun m => (flatL m).length = num m ∧ 0 < num m) ⟨n1', by decide⟩ ⟨n2', by decide⟩ ⟨n3', by decide⟩ ⟨n4', by decide⟩ ⟨n5', by decide⟩ ⟨n6', by decide⟩ a b
abbrev rowsT (rows : List (List Int)) : List PyData := rows.map tupI
def unT : PyData → List Int
  | .tuple xs => (ints? xs).getD []
  | _ => []
theorem un_tup (l : List Int) : unT (tupI l) = l := by
  unfold unT tupI; simp only []; rw [show ints? (l.map PyData.int) = some l from ints_map l]; rfl
theorem filter_rows (b : List Int → Bool) (rows : List (List Int)) : ((rowsT rows).filter fun x => b (unT x)).map (fun x => x) = rowsT (rows.filter b) := by
  rw [List.map_id', List.filter_map]
  congr 1
  refine List.filter_congr fun l _ => ?_
  simp only [Function.comp_apply, un_tup]
theorem rows_plain : ∀ {rows : List (List Int)}, (∀ l ∈ rows, l.length ≤ 6) → plainL (rowsT rows) = true ∧ szL (rowsT rows) ≤ 7 * rows.length
  | [], _ => ⟨rfl, by simp [szL]⟩
  | l :: rows, h => by
    obtain ⟨a, b⟩ := rows_plain (rows := rows) fun q hq => h q (by simp [hq])
    obtain ⟨c, d⟩ := tupI_plain l
    have := h l (by simp)
    refine ⟨by show (plainD (tupI l) && plainL (rowsT rows)) = true; rw [c, a]; rfl, ?_⟩
    simp only [rowsT, List.map_cons, szL, List.length_cons] at b ⊢
    omega
theorem ords_len {m : Nat} (hm : m ≤ 6) : (ords m).length ≤ 46656 := by
  have a := rowsN_len m m
  have b : m ^ m ≤ 6 ^ m := Nat.pow_le_pow_left hm m
  have c : 6 ^ m ≤ 6 ^ 6 := Nat.pow_le_pow_right (by decide) hm
  exact Nat.le_trans a (Nat.le_trans b (Nat.le_trans c (by decide)))
theorem folds_sub {m : Nat} (hm : m ≤ 6) (ps : List (Int × Int)) : (foldsP m ps).length ≤ 46656 ∧ ∀ l ∈ foldsP m ps, l ∈ ords m ∧ l.length ≤ 6 := by
  refine ⟨Nat.le_trans (List.length_filter_le _ _) (ords_len hm), fun l hl => ?_⟩
  have h := (List.mem_filter.mp hl).1
  exact ⟨h, by rw [rowsN_row m m l h]; exact hm⟩
def dueB (ps : List (Int × Int)) (l : List Int) : Bool := (ps.filter fun p => decide (getI l p.1 < getI l p.2)).isEmpty
theorem due_eq {m : Nat} {ps : List (Int × Int)} (h : Above m ps) : (flatL m).filter (dueB ps) = foldsP m ps := by
  unfold flatL foldsP
  rw [List.filter_filter]
  refine List.filter_congr fun l hl => ?_
  congr 1
  obtain ⟨h1, h2, h3⟩ := (mem_rowsN m m l).mp hl
  have key : ∀ p ∈ ps, (getI l p.2 < getI l p.1 ↔ ¬ getI l p.1 < getI l p.2) := fun p hp => by
    obtain ⟨a, b, c, d, e⟩ := h.inr p hp
    have q1 : p.1.toNat < l.length := by omega
    have q2 : p.2.toNat < l.length := by omega
    have hne : getI l p.1 ≠ getI l p.2 := by
      unfold getI
      rw [List.getD_eq_getElem?_getD, List.getD_eq_getElem?_getD, List.getElem?_eq_getElem q1, List.getElem?_eq_getElem q2]
      intro z
      have z : l[p.1.toNat] = l[p.2.toNat] := z
      have := (List.getElem_inj h2).mp z
      omega
    omega
  unfold dueB gtAll
  rw [Bool.eq_iff_iff, List.isEmpty_iff, List.filter_eq_nil_iff, List.all_eq_true]
  constructor
  · intro z p hp
    have := z p hp
    rw [decide_eq_true_eq] at this ⊢
    exact (key p hp).mpr this
  · intro z p hp
    have := z p hp
    rw [decide_eq_true_eq] at this ⊢
    exact (key p hp).mp this
theorem due_in {m : Nat} {ps : List (Int × Int)} (h : Above m ps) (hm : m ≤ 6) {l : List Int} (hl : l.length = m) {s0 s1 s2 s3 s4 s5 s6 s7 s10 s11 s12 s13 : Sl} : dLc (iSeq (dSto (dVar 8))) [14, 15] (pTup 2 (pCons (pName 14) (pCons (pName 15) (pNil)))) (dBin gLtA (dBin gIx (dVar 9) (dVar 14)) (dBin gIx (dVar 9) (dVar 15))) (dC (.int 1)) [s0, s1, s2, s3, s4, s5, s6, s7, .d (tupP ps), .d (tupI l), s10, s11, s12, s13, .un, .un] = .ok (.ow (.lst ((ps.filter fun p => decide (getI l p.1 < getI l p.2)).map fun _ => .int 1))) [s0, s1, s2, s3, s4, s5, s6, s7, .d (tupP ps), .d (tupI l), s10, s11, s12, s13, .un, .un] := by
  have hps : ps.length ≤ 36 := Nat.le_trans h.len (Nat.mul_le_mul hm hm)
  have q := dLc_pure (fi := iSeq (dSto (dVar 8))) (vs := [14, 15]) (p := pTup 2 (pCons (pName 14) (pCons (pName 15) pNil))) (t := dBin gLtA (dBin gIx (dVar 9) (dVar 14)) (dBin gIx (dVar 9) (dVar 15))) (el := dC (.int 1)) (env := [s0, s1, s2, s3, s4, s5, s6, s7, .d (tupP ps), .d (tupI l), s10, s11, s12, s13, .un, .un]) (xs := ps.map ofPair)
    (fun x => decide (getI l (unP x).1 < getI l (unP x).2)) (fun _ => .int 1) (fun x => match x with | .tuple [a, b] => [s0, s1, s2, s3, s4, s5, s6, s7, .d (tupP ps), .d (tupI l), s10, s11, s12, s13, .d a, .d b] | _ => []) (iseq_t (sto_d (var_d rfl))) (by kernel_rfl) (by kernel_rfl) (fun x hx => by
      obtain ⟨p, hp, rfl⟩ := List.mem_map.mp hx
      have hr := h.inr p hp
      apply And.intro
      · kernel_rfl
      apply And.intro
      rotate_left
      · apply And.intro
        · intro _; kernel_rfl
        · kernel_rfl
      exact bin_s (x := .int (getI l p.1)) (y := .int (getI l p.2)) (bin_s rfl rfl (ix_ok (by omega) (by omega))) (bin_s rfl rfl (ix_ok (by omega) (by omega))) rfl) (by rw [List.length_map]; exact Nat.le_trans hps (Nat.le_trans (by omega) lim_ge))
  rw [q, List.filter_map, List.map_map]
  rfl
theorem due_out {m : Nat} {ps : List (Int × Int)} (h : Above m ps) (hm : m ≤ 6) {s0 s1 s2 s3 s5 s6 s7 s10 s11 s12 s13 : Sl} : lw7_1 [s0, s1, s2, s3, .d (.list (rowsT (flatL m))), s5, s6, s7, .d (tupP ps), .un, s10, s11, s12, s13, .un, .un] = .nx [s0, s1, s2, s3, .d (.list (rowsT (flatL m))), s5, s6, s7, .d (tupP ps), .un, .d (.tuple (rowsT (foldsP m ps))), s11, s12, s13, .un, .un] := by
  have hlen : (rowsT (flatL m)).length ≤ lim := by
    rw [List.length_map]
    exact Nat.le_trans (List.length_filter_le _ _) (Nat.le_trans (ords_len hm) (Nat.le_trans (by omega) lim_ge))
  have q := dLc_pure (fi := iSeq (dSto (dVar 4))) (vs := [9]) (p := pName 9) (t := dBin gEqA (dLc (iSeq (dSto (dVar 8))) [14, 15] (pTup 2 (pCons (pName 14) (pCons (pName 15) pNil))) (dBin gLtA (dBin gIx (dVar 9) (dVar 14)) (dBin gIx (dVar 9) (dVar 15))) (dC (.int 1))) (dLst dNil)) (el := dSto (dVar 9)) (env := [s0, s1, s2, s3, .d (.list (rowsT (flatL m))), s5, s6, s7, .d (tupP ps), .un, s10, s11, s12, s13, .un, .un]) (xs := rowsT (flatL m))
    (fun x => dueB ps (unT x)) (fun x => x) (fun x => [s0, s1, s2, s3, .d (.list (rowsT (flatL m))), s5, s6, s7, .d (tupP ps), .d x, s10, s11, s12, s13, .un, .un]) (iseq_l (sto_d (var_d rfl))) (by kernel_rfl) (by kernel_rfl) (fun x hx => by
      obtain ⟨l, hl, rfl⟩ := List.mem_map.mp hx
      have hl2 : l.length = m := rowsN_row m m l (List.mem_filter.mp hl).1
      apply And.intro
      · kernel_rfl
      apply And.intro
      rotate_left
      · apply And.intro
        · intro _; kernel_rfl
        · kernel_rfl
      have e := eq_nil2 ((ps.filter fun p => decide (getI l p.1 < getI l p.2)).map fun _ => PyData.int 1)
      rw [List.isEmpty_map] at e
      have := bin_d (e2 := [s0, s1, s2, s3, .d (.list (rowsT (flatL m))), s5, s6, s7, .d (tupP ps), .d (tupI l), s10, s11, s12, s13, .un, .un]) (fb := dLst dNil) (rb := .ow (.lst [])) (due_in h hm hl2) rfl rfl rfl e
      rw [this, un_tup]; rfl) hlen
  rw [filter_rows, due_eq h] at q
  unfold lw7_1
  exact set_d (stb_d (callB1 q rfl rfl))
end K39

set_option Elab.async false
set_option linter.all false
set_option maxRecDepth 100000
set_option maxHeartbeats 4000000
namespace K39
open PySem PySem.Spec PyProof.Rows L2 Dn
theorem flat_ne {m : Nat} (h1 : 1 ≤ m) (hm : m ≤ 6) : rowsT (flatL m) ≠ [] := by
  obtain ⟨a, b⟩ := flat_num h1 hm
  intro h
  have := congrArg List.length h
  rw [List.length_map, a, List.length_nil] at this
  omega
theorem flat_lt {m : Nat} (hm : m ≤ 6) : (rowsT (flatL m)).length < 1000000 := by
  rw [List.length_map]
  exact Nat.lt_of_le_of_lt (Nat.le_trans (List.length_filter_le _ _) (ords_len hm)) (by omega)
theorem same_folds {m : Nat} (hm : m ≤ 6) (ps : List (Int × Int)) : F__law_same [.d (.list [.tuple (rowsT (foldsP m ps)), .tuple (rowsT (foldsP m ps))]), .d (.list [.tuple (rowsT (foldsP m ps)), .tuple (rowsT (foldsP m ps))])] = .ok (.d (.bool true)) [.d (.list [.tuple (rowsT (foldsP m ps)), .tuple (rowsT (foldsP m ps))]), .d (.list [.tuple (rowsT (foldsP m ps)), .tuple (rowsT (foldsP m ps))])] := by
  obtain ⟨a, b⟩ := folds_sub hm ps
  obtain ⟨c, d⟩ := rows_plain fun l hl => (b l hl).2
  refine same_ok _ ?_ ?_
  · show (plainL (rowsT (foldsP m ps)) && (plainL (rowsT (foldsP m ps)) && true)) = true
    rw [c]; rfl
  · simp only [szD, szL]; omega
theorem folds_k {m : Nat} {ps : List (Int × Int)} (h : Above m ps) (h1 : 1 ≤ m) (hm : m ≤ 6) {e : List Sl} {f1 f2 : De} (g1 : f1 e = .ok (.d (tupP ps)) e) (g2 : f2 e = .ok (.d (.int m)) e) : dCallK 2 F_folds 0 2 [1, 0] dNil (dCons f1 (dCons f2 dNil)) e = .ok (.d (.tuple (rowsT (foldsP m ps)))) e :=
  (callK_d (rs := []) (zs := [.d (tupP ps), .d (.int m)]) rfl (cons_d g1 (cons1 g2)) ⟨rfl, rfl, rfl⟩).trans (callF_d (as := [.int m, tupP ps]) rfl (folds_ok h h1 hm) rfl)
theorem folds_c {m : Nat} {ps : List (Int × Int)} (h : Above m ps) (h1 : 1 ≤ m) (hm : m ≤ 6) {e : List Sl} {f1 f2 : De} (g1 : f1 e = .ok (.d (.int m)) e) (g2 : f2 e = .ok (.d (tupP ps)) e) : dCall 2 F_folds (dCons f1 (dCons f2 dNil)) e = .ok (.d (.tuple (rowsT (foldsP m ps)))) e :=
  call_d (as := [.int m, tupP ps]) (cons_d g1 (cons1 g2)) rfl (folds_ok h h1 hm) rfl
theorem b7_3 {m : Nat} {ps : List (Int × Int)} (h : Above m ps) (h1 : 1 ≤ m) (hm : m ≤ 6) {e : List Sl} {s : Str} (hs : gRepr [tupP ps] = some (.d (.str s))) (v2 : e[2]? = some (.d (.int m))) (v8 : e[8]? = some (.d (tupP ps))) (v10 : e[10]? = some (.d (.tuple (rowsT (foldsP m ps))))) (v11 : e[11]? = some (.d (.str s))) : lw7_3 e = .nx e := by
  have c1 := folds_c h h1 hm (sto_d (var_d v2)) (sto_d (var_d v8))
  have c2 := folds_k h h1 hm (sto_d (var_d v8)) (sto_d (var_d v2))
  have c3 := same_call (lst2 c1 c2) (lst2 (var_d v10) (var_d v10)) (same_folds hm ps)
  have c4 : dCallB gRepr (dCons (dVar 8) dNil) e = .ok (.d (.str s)) e := callB1 (var_d v8) rfl hs
  have c5 := bin_s c4 (var_d v11) (ne_str s)
  unfold lw7_3
  exact if_fp ((or_f c3).trans c5)
abbrev E7 (ns : List Int) (m : Nat) (w : Ow) (s4 s5 s6 s7 s8 s10 s11 : Sl) : List Sl := [.scr ns, .ow w, .d (.int m), .d (.list (rowsT (ords m))), s4, s5, s6, s7, s8, .un, s10, s11, .un, .un, .un, .un]
theorem body7 {ns : List Int} {m : Nat} {b : Int} {w : Ow} {s4 s5 s6 s7 s8 s10 s11 : Sl} (hD : DkOk b w) (hb0 : 0 ≤ b) (hb : b < 800000) (h1 : 1 ≤ m) (hm : m ≤ 6) (h4 : s4 = .ow (.lst (rowsT (flatL m))) ∨ s4 = .d (.list (rowsT (flatL m)))) : ∃ w' s8' s10' s11', lw7_b (E7 ns m w s4 s5 s6 s7 s8 s10 s11) = .nx (E7 ns m w' (.d (.list (rowsT (flatL m)))) s5 s6 s7 s8' s10' s11') ∧ DkOk (b + 103) w' := by
  obtain ⟨x, hx, w1, p1, hD1⟩ := pick_ok (xs := rowsT (flatL m)) hD (by omega) (flat_ne h1 hm) (flat_lt hm)
  obtain ⟨l, hl, rfl⟩ := List.mem_map.mp hx
  have hlo : l ∈ ords m := (List.mem_filter.mp hl).1
  obtain ⟨ps, w2, p2, hA, hD2⟩ := above_ok hD1 (by omega) (by omega) h1 hm (rowsN_row m m l hlo)
  have hps : ps.length ≤ 36 := Nat.le_trans hA.len (Nat.mul_le_mul hm hm)
  obtain ⟨s, hs⟩ := repr_ok hA hm
  obtain ⟨w3, p3, hD3⟩ := refused_ok (ps := ps) hD2 (by omega) h1 hm hps
  refine ⟨w3, .d (tupP ps), .d (.tuple (rowsT (foldsP m ps))), .d (.str s), ?_, hD3.le (by omega)⟩
  have c1 : dCall 2 F__law_pick (dCons (dVar 1) (dCons (dSto (dVar 4)) dNil)) (E7 ns m w s4 s5 s6 s7 s8 s10 s11) = .ok (.d (tupI l)) (E7 ns m w1 (.d (.list (rowsT (flatL m)))) s5 s6 s7 s8 s10 s11) := by
    have hs4 : dSto (dVar 4) (E7 ns m w s4 s5 s6 s7 s8 s10 s11) = .ok (.d (.list (rowsT (flatL m)))) (E7 ns m w (.d (.list (rowsT (flatL m)))) s5 s6 s7 s8 s10 s11) := by
      rcases h4 with rfl | rfl <;> rfl
    exact call_le (as := [.list (rowsT (flatL m))]) (i := 1) (w := w) (w' := w1) (cons_d (var_ow rfl) (cons1 hs4)) (.inl rfl) rfl p1 rfl
  have r0 : lw7_0 (E7 ns m w s4 s5 s6 s7 s8 s10 s11) = .nx (E7 ns m w2 (.d (.list (rowsT (flatL m)))) s5 s6 s7 (.d (tupP ps)) s10 s11) := by
    unfold lw7_0
    have c2 := call_le (np := 3) (F := F__law_above) (as := [.int m, tupI l]) (i := 1) (w := w1) (w' := w2) (outs := [.d (.int m), .d (tupI l)]) (cons_d (var_ow (env := E7 ns m w s4 s5 s6 s7 s8 s10 s11) (i := 1) rfl) (cons_d (sto_d (var_d (env := E7 ns m w s4 s5 s6 s7 s8 s10 s11) (i := 2) rfl)) (cons1 (sto_d c1)))) (.inl rfl) rfl p2 rfl
    exact set_d (stb_d c2)
  have r1 : lw7_1 (E7 ns m w2 (.d (.list (rowsT (flatL m)))) s5 s6 s7 (.d (tupP ps)) s10 s11) = .nx (E7 ns m w2 (.d (.list (rowsT (flatL m)))) s5 s6 s7 (.d (tupP ps)) (.d (.tuple (rowsT (foldsP m ps)))) s11) := due_out hA hm
  have r2 : lw7_2 (E7 ns m w2 (.d (.list (rowsT (flatL m)))) s5 s6 s7 (.d (tupP ps)) (.d (.tuple (rowsT (foldsP m ps)))) s11) = .nx (E7 ns m w2 (.d (.list (rowsT (flatL m)))) s5 s6 s7 (.d (tupP ps)) (.d (.tuple (rowsT (foldsP m ps)))) (.d (.str s))) := by
    unfold lw7_2
    exact set_d (stb_d (callB1 (var_d rfl) rfl hs))
  have r3 := b7_3 (e := E7 ns m w2 (.d (.list (rowsT (flatL m)))) s5 s6 s7 (.d (tupP ps)) (.d (.tuple (rowsT (foldsP m ps)))) (.d (.str s))) hA h1 hm hs rfl rfl rfl rfl
  have r4 : lw7_4 (E7 ns m w2 (.d (.list (rowsT (flatL m)))) s5 s6 s7 (.d (tupP ps)) (.d (.tuple (rowsT (foldsP m ps)))) (.d (.str s))) = .nx (E7 ns m w3 (.d (.list (rowsT (flatL m)))) s5 s6 s7 (.d (tupP ps)) (.d (.tuple (rowsT (foldsP m ps)))) (.d (.str s))) := by
    have c3 := call_le (np := 3) (F := F__law_are_refused) (as := [.int m, tupP ps]) (i := 1) (w := w2) (w' := w3) (outs := [.d (.int m), .d (tupP ps)]) (cons_d (var_ow (env := E7 ns m w2 (.d (.list (rowsT (flatL m)))) s5 s6 s7 (.d (tupP ps)) (.d (.tuple (rowsT (foldsP m ps)))) (.d (.str s))) (i := 1) rfl) (cons_d (sto_d (var_d (i := 2) rfl)) (cons1 (sto_d (var_d (i := 8) rfl))))) (.inl rfl) rfl p3 rfl
    unfold lw7_4
    exact if_fp (not_t c3)
  unfold lw7_b
  rw [seq_nx r0, seq_nx r1, seq_nx r2, seq_nx r3, r4]
end K39

set_option Elab.async false
set_option linter.all false
set_option maxRecDepth 100000
set_option maxHeartbeats 4000000
namespace K39
open PySem PySem.Spec PyProof.Rows L2 Dn
/-! ### for every telling of neighbours there is a fold -/
def chs : List Nat → List (List (Int × Int))
  | [] => [[]]
  | k :: ks => (chs ks).flatMap fun r => [((k : Int), (k : Int) + 1) :: r, ((k : Int) + 1, (k : Int)) :: r]
theorem mem_chs : ∀ {ks : List Nat} {ys : List (Int × Int)}, All2 isNb ks ys → ys ∈ chs ks
  | [], _, .nil => by simp [chs]
  | k :: ks, _, .cons h t => by
    have ih := mem_chs t
    unfold chs
    rw [List.mem_flatMap]
    refine ⟨_, ih, ?_⟩
    rcases h with rfl | rfl <;> simp
def chkN (m : Nat) : Bool := (chs (List.range (m - 1))).all fun ys => !(foldsP m (sortB leP ys)).isEmpty
theorem nb1 : chkN 1 = true := by kernel_rfl
theorem nb2 : chkN 2 = true := by kernel_rfl
theorem nb3 : chkN 3 = true := by kernel_rfl
theorem nb4 : chkN 4 = true := by kernel_rfl
theorem nb5 : chkN 5 = true := by kernel_rfl
theorem nb6 : chkN 6 = true := by kernel_rfl
theorem nb_fold {m : Nat} (h1 : 1 ≤ m) (hm : m ≤ 6) {ys : List (Int × Int)} (h : All2 isNb (List.range (m - 1)) ys) : ∃ l rows, foldsP m (sortB leP ys) = l :: rows := by
  have hc : chkN m = true := six (P := fun m => chkN m = true) nb1 nb2 nb3 nb4 nb5 nb6 h1 hm
  have := List.all_eq_true.mp hc ys (mem_chs h)
  cases hq : foldsP m (sortB leP ys) with
  | nil => rw [hq] at this; cases this
  | cons l rows => exact ⟨l, rows, rfl⟩
theorem rows_lay : ∀ rows : List (List Int), PyData.canLayAll0 (rowsT rows) = true ∧ PyData.depthAll (rowsT rows) ≤ 2
  | [] => by simp [rowsT, PyData.canLayAll0, PyData.depthAll]
  | l :: rows => by
    obtain ⟨a, b⟩ := rows_lay rows
    obtain ⟨c, d⟩ := ints_lay l
    constructor
    · show (PyData.canLay0 (tupI l) && PyData.canLayAll0 (rowsT rows)) = true
      rw [a, Bool.and_true]
      simpa [tupI, PyData.canLay0] using c
    · show max (PyData.depth (tupI l)) (PyData.depthAll (rowsT rows)) ≤ 2
      have : PyData.depth (tupI l) = PyData.depthAll (l.map .int) + 1 := by simp [tupI, PyData.depth]
      omega
theorem eq_rows (l : List Int) (rows : List (List Int)) : gEqA (.tuple (rowsT (l :: rows))) (.tuple []) = some (.d (.bool false)) := by
  obtain ⟨a, b⟩ := rows_lay (l :: rows)
  have s1 : SeqAt.shaped (.tuple (rowsT (l :: rows))) = true := by
    unfold SeqAt.shaped
    rw [Bool.and_eq_true, decide_eq_true_eq]
    refine ⟨by simpa [PyData.canLay0] using a, ?_⟩
    have : PyData.depth (.tuple (rowsT (l :: rows))) = PyData.depthAll (rowsT (l :: rows)) + 1 := by simp [PyData.depth]
    omega
  have s2 : SeqAt.shaped (.tuple []) = true := by kernel_rfl
  show gEq (.tuple (rowsT (l :: rows))) (.tuple []) = _
  unfold gEq
  rw [s1, s2]
  rfl
/-! ### picks -/
theorem pick_lc {n : Nat} (hn : n ≤ 1000) {xs : List PyData} (h0 : xs ≠ []) (hx : xs.length < 1000000) {i : Nat} (E : Ow → List Sl) (hv : ∀ w x, dVar 1 ((E w).set 7 (.d x)) = .ok (.bo 1) ((E w).set 7 (.d x))) (h1 : ∀ w x, ((E w).set 7 (.d x))[1]? = some (.ow w)) (h2 : ∀ w w' x, setOw ((E w).set 7 (.d x)) 1 w' = (E w').set 7 (.d x)) (h3 : ∀ w x, ((E w).set 7 (.d x)).set 7 .un = E w) (h4 : ∀ w x, dVar i ((E w).set 7 (.d x)) = .ok (.d (.list xs)) ((E w).set 7 (.d x)))
    {b : Int} {w : Ow} (hD : DkOk b w) (hb : b + n < 1000000) : ∃ ys w', lcD [7] (pName 7) dYes (dSto (dCall 2 F__law_pick (dCons (dVar 1) (dCons (dSto (dVar i)) (dNil))))) (Dn.intsFrom 0 n) [] (E w) = .ok ys (E w') ∧ (∀ y ∈ ys, y ∈ xs) ∧ ys.length = n ∧ DkOk (b + n) w' := by
  obtain ⟨ys, env', e1, e2, e3⟩ := lc_inv (vs := [7]) (p := pName 7) (t := dYes) (el := dSto (dCall 2 F__law_pick (dCons (dVar 1) (dCons (dSto (dVar i)) (dNil))))) (fun k e => ∃ w, e = E w ∧ DkOk (b + k) w) (fun _ y => y ∈ xs) (Dn.intsFrom 0 n) [] 0 (E w) ⟨w, rfl, by simpa using hD⟩ (by
    rintro x _ k' env hk ⟨w, rfl, hD⟩
    have hk : k' < n := by simpa [Dn.intsFrom] using hk
    obtain ⟨y, hy, w', p1, hD'⟩ := pick_ok (xs := xs) hD (by omega) h0 hx
    refine ⟨(E w).set 7 (.d x), (E w').set 7 (.d x), y, rfl, rfl, ?_, hy, w', h3 w' x, hD'.le (by omega)⟩
    rw [← h2 w w']
    exact sto_d (call_le (as := [.list xs]) (i := 1) (w := w) (w' := w') (cons_d (hv w x) (cons1 (sto_d (h4 w x)))) (.inl (h1 w x)) rfl p1 rfl)) (by simp [Dn.intsFrom]; exact Nat.le_trans hn (Nat.le_trans (by omega) lim_ge))
  obtain ⟨w', rfl, hD'⟩ := e3
  have hl : (Dn.intsFrom 0 n).length = n := by simp [Dn.intsFrom]
  have key : ∀ {as : List PyData} {ys : List PyData}, All2 (fun _ y => y ∈ xs) as ys → (∀ y ∈ ys, y ∈ xs) ∧ ys.length = as.length := fun {as ys} h => by
    induction h with
    | nil => exact ⟨by simp, rfl⟩
    | cons h t ih => exact ⟨fun y hy => by rcases List.mem_cons.mp hy with rfl | hy; exact h; exact ih.1 y hy, by simp [ih.2]⟩
  obtain ⟨k1, k2⟩ := key e2
  exact ⟨ys, w', by simpa using e1, k1, by rw [k2, hl], hD'.le (by rw [hl]; omega)⟩
theorem lw8_ok {ns : List Int} {m : Nat} {b : Int} {w : Ow} {s4 s5 s6 s7 s8 s10 s11 : Sl} (hD : DkOk b w) (hb : b < 800000) (h1 : 1 ≤ m) (hm : m ≤ 6) : ∃ w' ys, lw_8 (E7 ns m w s4 s5 s6 s7 s8 s10 s11) = .nx (E7 ns m w' s4 s5 s6 s7 (.d (tupP (sortB leP ys))) s10 s11) ∧ All2 isNb (List.range (m - 1)) ys ∧ DkOk (b + 6) w' := by
  obtain ⟨ys, w', e1, e2, e3⟩ := nb_lc (i := 1) (j := 14) (fun w => E7 ns m w s4 s5 s6 s7 s8 s10 s11) (fun _ _ => by kernel_rfl) (fun _ _ => .inl (by kernel_rfl)) (fun _ _ _ => by kernel_rfl) (fun _ _ => by kernel_rfl) (fun _ _ => by kernel_rfl) hD (m - 1) (by omega) (by omega)
  refine ⟨w', ys, ?_, e2, e3.le (by omega)⟩
  have hs : dBin gSubI (dVar 2) (dC (.int 1)) (E7 ns m w s4 s5 s6 s7 s8 s10 s11) = .ok (.d (.int ((m - 1 : Nat) : Int))) (E7 ns m w s4 s5 s6 s7 s8 s10 s11) := by
    have : ((m - 1 : Nat) : Int) = (m : Int) - 1 := by omega
    rw [this]; exact bin_s (var_d rfl) rfl rfl
  have r1 := range1n (cons1 hs) (by omega)
  have n1 : dLc (iRange1 (dCons (dBin gSubI (dVar 2) (dC (.int 1))) dNil)) [14] (pName 14) dYes (nbEl 1 14) (E7 ns m w s4 s5 s6 s7 s8 s10 s11) = .ok (.ow (.lst (ys.map ofPair))) (E7 ns m w' s4 s5 s6 s7 s8 s10 s11) := by
    have hno : noOw (E7 ns m w s4 s5 s6 s7 s8 s10 s11) [14] = true := by kernel_rfl
    have hw : wipeE (E7 ns m w s4 s5 s6 s7 s8 s10 s11) [14] = E7 ns m w s4 s5 s6 s7 s8 s10 s11 := by kernel_rfl
    have hr : restE [14] (E7 ns m w s4 s5 s6 s7 s8 s10 s11) (E7 ns m w' s4 s5 s6 s7 s8 s10 s11) = E7 ns m w' s4 s5 s6 s7 s8 s10 s11 := by kernel_rfl
    unfold dLc
    rw [bind_ok r1, if_pos hno, hw, e1]
    simp only []
    rw [hr]
  unfold lw_8
  exact set_d (stb_d (callB1 (callB1 n1 rfl (sorted_pairs ys)) rfl rfl))
theorem lw11_i {ns : List Int} {m : Nat} {b : Int} {w : Ow} {s5 s6 s8 s10 s11 : Sl} {x7 : PyData} (hD : DkOk b w) (hb : b < 800000) (h1 : 1 ≤ m) (hm : m ≤ 6) : ∃ w' e', lw_11 (E7 ns m w (.d (.list (rowsT (flatL m)))) s5 s6 (.d x7) s8 s10 s11) = .nx e' ∧ E11 ns m w' (.d (.list (rowsT (ords m)))) (.d (.list (rowsT (flatL m)))) s5 (.d x7) s8 s11 e' := by
  have hof : (rowsT (ords m)) ≠ [] := by
    intro h
    have hf := flat_ne h1 hm
    have : ords m = [] := by simpa using h
    apply hf
    unfold flatL
    rw [this]; rfl
  obtain ⟨ys, w1, a1, a2, a3, hD1⟩ := pick_lc (n := 8) (i := 3) (by omega) hof (by rw [List.length_map]; exact Nat.lt_of_le_of_lt (ords_len hm) (by omega)) (fun w => E7 ns m w (.d (.list (rowsT (flatL m)))) s5 s6 .un s8 s10 s11) (fun _ _ => by kernel_rfl) (fun _ _ => by kernel_rfl) (fun _ _ _ => by kernel_rfl) (fun _ _ => by kernel_rfl) (fun _ _ => by kernel_rfl) hD (by omega)
  obtain ⟨zs, w2, b1, b2, b3, hD2⟩ := pick_lc (n := 4) (i := 4) (by omega) (flat_ne h1 hm) (flat_lt hm) (fun w => E7 ns m w (.d (.list (rowsT (flatL m)))) s5 s6 .un s8 s10 s11) (fun _ _ => by kernel_rfl) (fun _ _ => by kernel_rfl) (fun _ _ _ => by kernel_rfl) (fun _ _ => by kernel_rfl) (fun _ _ => by kernel_rfl) hD1 (by omega)
  have n0 : ∀ (k : Nat) (w w' : Ow) (el : De) (ys : List PyData), k ≤ 1000 → lcD [7] (pName 7) dYes el (Dn.intsFrom 0 k) [] (E7 ns m w (.d (.list (rowsT (flatL m)))) s5 s6 .un s8 s10 s11) = .ok ys (E7 ns m w' (.d (.list (rowsT (flatL m)))) s5 s6 .un s8 s10 s11) → dLc (iRange1 (dCons (dC (.int k)) dNil)) [7] (pName 7) dYes el (E7 ns m w (.d (.list (rowsT (flatL m)))) s5 s6 (.d x7) s8 s10 s11) = .ok (.ow (.lst ys)) (E7 ns m w' (.d (.list (rowsT (flatL m)))) s5 s6 (.d x7) s8 s10 s11) := fun k w w' el ys hk h => by
    have r1 : iRange1 (dCons (dC (.int k)) dNil) (E7 ns m w (.d (.list (rowsT (flatL m)))) s5 s6 (.d x7) s8 s10 s11) = .ok (Dn.intsFrom 0 k) (E7 ns m w (.d (.list (rowsT (flatL m)))) s5 s6 (.d x7) s8 s10 s11) := range1n (cons1 rfl) (by omega)
    have hno : noOw (E7 ns m w (.d (.list (rowsT (flatL m)))) s5 s6 (.d x7) s8 s10 s11) [7] = true := by kernel_rfl
    have hw : wipeE (E7 ns m w (.d (.list (rowsT (flatL m)))) s5 s6 (.d x7) s8 s10 s11) [7] = E7 ns m w (.d (.list (rowsT (flatL m)))) s5 s6 .un s8 s10 s11 := by kernel_rfl
    have hr : restE [7] (E7 ns m w (.d (.list (rowsT (flatL m)))) s5 s6 (.d x7) s8 s10 s11) (E7 ns m w' (.d (.list (rowsT (flatL m)))) s5 s6 .un s8 s10 s11) = E7 ns m w' (.d (.list (rowsT (flatL m)))) s5 s6 (.d x7) s8 s10 s11 := by kernel_rfl
    unfold dLc
    rw [bind_ok r1, if_pos hno, hw, h]
    simp only []
    rw [hr]
  have c1 := n0 8 w w1 _ ys (by omega) a1
  have c2 := n0 4 w1 w2 _ zs (by omega) b1
  have g : gAdd (.list ys) (.list zs) = some (.ow (.lst (ys ++ zs))) := by
    show gAddX (.list ys) (.list zs) = _
    unfold gAddX; simp only []
    rw [if_pos (by rw [a3, b3]; exact Nat.le_trans (by omega) lim_ge)]
  have c3 := iseq_l (sto_ow (bin_d c1 c2 rfl rfl g))
  have hmem : ∀ x ∈ ys ++ zs, ∃ l ∈ ords m, x = tupI l := fun x hx => by
    rcases List.mem_append.mp hx with hx | hx
    · obtain ⟨l, hl, rfl⟩ := List.mem_map.mp (a2 x hx)
      exact ⟨l, hl, rfl⟩
    · obtain ⟨l, hl, rfl⟩ := List.mem_map.mp (b2 x hx)
      exact ⟨l, (List.mem_filter.mp hl).1, rfl⟩
  obtain ⟨e', d1, d2⟩ := for_inv (p := pName 9) (body := lw11_b) (fun k e => ∃ w, DkOk (b + 12 + k) w ∧ E11 ns m w (.d (.list (rowsT (ords m)))) (.d (.list (rowsT (flatL m)))) s5 (.d x7) s8 s11 e) (ys ++ zs) 0 (E7 ns m w2 (.d (.list (rowsT (flatL m)))) s5 s6 (.d x7) s8 s10 s11) ⟨w2, hD2.le (by omega), ⟨_, _, _, _, _, rfl⟩⟩ (by
    rintro x hx k e hk ⟨w, hD, ⟨s6, s9, s10, s12, s13, rfl⟩⟩
    obtain ⟨l, hl, rfl⟩ := hmem x hx
    have hk : k < 12 := by simp [a3, b3] at hk; omega
    obtain ⟨w', e', r1, r2, r3⟩ := body11 (ns := ns) (s3 := .d (.list (rowsT (ords m)))) (s4 := .d (.list (rowsT (flatL m)))) (s5 := s5) (s7 := .d x7) (s8 := s8) (s11 := s11) (s6 := s6) (s10 := s10) (s12 := s12) (s13 := s13) hD (by omega) h1 hm hl
    exact ⟨_, e', rfl, r1, w', r3.le (by omega), r2⟩)
  obtain ⟨w', _, hE⟩ := d2
  refine ⟨w', e', ?_, hE⟩
  unfold lw_11
  exact (for_d c3).trans d1
end K39

set_option Elab.async false
set_option linter.all false
set_option maxRecDepth 100000
set_option maxHeartbeats 4000000
namespace K39
open PySem PySem.Spec PyProof.Rows L2 Dn
abbrev E0 (ns : List Int) (s1 s2 s3 s4 s5 s6 : Sl) : List Sl := [.scr ns, s1, s2, s3, s4, s5, s6, .un, .un, .un, .un, .un, .un, .un, .un, .un]
theorem lw0_ok (ns : List Int) (hl : ns.length ≤ 63) : ∃ w, lw_0 (E0 ns .un .un .un .un .un .un) = .nx (E0 ns (.ow w) .un .un .un .un .un) ∧ DkOk 0 w := by
  obtain ⟨w, s, h, hD⟩ := deck_ok ns hl
  refine ⟨w, ?_, hD⟩
  have c : dCall 2 F__law_deck (dCons (dSv 0) (dCons (dC (.int 39)) dNil)) (E0 ns .un .un .un .un .un .un) = .ok (.ow w) (E0 ns .un .un .un .un .un .un) := by
    have h1 : dCons (dSv 0) (dCons (dC (.int 39)) dNil) (E0 ns .un .un .un .un .un .un) = .ok [.bo 0, .d (.int 39)] (E0 ns .un .un .un .un .un .un) := rfl
    have h2 : argsS (E0 ns .un .un .un .un .un .un) [.bo 0, .d (.int 39)] = some ([.scr ns, .d (.int 39)], [none, none]) := rfl
    unfold dCall
    rw [h1]
    show callF 2 F__law_deck [.bo 0, .d (.int 39)] (E0 ns .un .un .un .un .un .un) = _
    unfold callF
    rw [if_pos (show [Rv.bo 0, Rv.d (PyData.int 39)].length = 2 from rfl), h2]
    simp only []
    rw [if_pos (by simp), h]
    rfl
  unfold lw_0
  exact set_ow (stb_ow c)
theorem lw1_ok {ns : List Int} {w : Ow} (hD : DkOk 0 w) : ∃ w' m, lw_1 (E0 ns (.ow w) .un .un .un .un .un) = .nx (E0 ns (.ow w') (.d (.int (m : Nat))) .un .un .un .un) ∧ DkOk 1 w' ∧ 1 ≤ m ∧ m ≤ 6 := by
  obtain ⟨x, hx, w', p1, hD'⟩ := pick_ok (xs := [.int 1, .int 2, .int 3, .int 4, .int 4, .int 5, .int 5, .int 6]) hD (by omega) (by simp) (by simp)
  have hm : ∃ m : Nat, x = .int m ∧ 1 ≤ m ∧ m ≤ 6 := by
    simp only [List.mem_cons, List.not_mem_nil, or_false] at hx
    rcases hx with rfl | rfl | rfl | rfl | rfl | rfl | rfl | rfl
    · exact ⟨1, rfl, by omega, by omega⟩
    · exact ⟨2, rfl, by omega, by omega⟩
    · exact ⟨3, rfl, by omega, by omega⟩
    · exact ⟨4, rfl, by omega, by omega⟩
    · exact ⟨4, rfl, by omega, by omega⟩
    · exact ⟨5, rfl, by omega, by omega⟩
    · exact ⟨5, rfl, by omega, by omega⟩
    · exact ⟨6, rfl, by omega, by omega⟩
  obtain ⟨m, rfl, h1, hm⟩ := hm
  refine ⟨w', m, ?_, hD', h1, hm⟩
  have c := call_le (np := 2) (F := F__law_pick) (fr := dCons (dVar 1) (dCons (dSto (dLst (dCons (dC (.int 1)) (dCons (dC (.int 2)) (dCons (dC (.int 3)) (dCons (dC (.int 4)) (dCons (dC (.int 4)) (dCons (dC (.int 5)) (dCons (dC (.int 5)) (dCons (dC (.int 6)) dNil)))))))))) dNil)) (env := E0 ns (.ow w) .un .un .un .un .un) (e1 := E0 ns (.ow w) .un .un .un .un .un) (as := [.list [.int 1, .int 2, .int 3, .int 4, .int 4, .int 5, .int 5, .int 6]]) (i := 1) (w := w) (w' := w') (by kernel_rfl) (.inl rfl) rfl p1 rfl
  unfold lw_1
  exact set_d (stb_d c)
theorem lw2_ok {ns : List Int} {s1 : Sl} {m : Nat} (h1 : 1 ≤ m) (hm : m ≤ 6) : lw_2 (E0 ns s1 (.d (.int m)) .un .un .un .un) = .nx (E0 ns s1 (.d (.int m)) (.d (.list (rowsT (ords m)))) .un .un .un) := by
  unfold lw_2
  exact set_d (stb_d (call1 (sto_d (var_d rfl)) (orders_ok m h1 hm)))
theorem lw3_ok {ns : List Int} {s1 : Sl} {m : Nat} (h1 : 1 ≤ m) (hm : m ≤ 6) : lw_3 (E0 ns s1 (.d (.int m)) (.d (.list (rowsT (ords m)))) .un .un .un) = .nx (E0 ns s1 (.d (.int m)) (.d (.list (rowsT (ords m)))) (.ow (.lst (rowsT (flatL m)))) .un .un) := by
  have q := dLc_pure (fi := iSeq (dSto (dVar 3))) (vs := [9]) (p := pName 9) (t := dCall 1 F__law_is_flat (dCons (dSto (dVar 9)) dNil)) (el := dSto (dVar 9)) (env := E0 ns s1 (.d (.int m)) (.d (.list (rowsT (ords m)))) .un .un .un) (xs := rowsT (ords m))
    (fun x => flatI (unT x)) (fun x => x) (fun x => [.scr ns, s1, .d (.int m), .d (.list (rowsT (ords m))), .un, .un, .un, .un, .un, .d x, .un, .un, .un, .un, .un, .un]) (iseq_l (sto_d (var_d rfl))) (by kernel_rfl) (by kernel_rfl) (fun x hx => by
      obtain ⟨l, hl, rfl⟩ := List.mem_map.mp hx
      obtain ⟨s, hf⟩ := (ords_lay h1 hm hl).flat
      apply And.intro
      · kernel_rfl
      apply And.intro
      · rw [un_tup]
        exact call1 (sto_d (var_d rfl)) hf
      apply And.intro
      · intro _; kernel_rfl
      · kernel_rfl) (by rw [List.length_map]; exact Nat.le_trans (ords_len hm) (Nat.le_trans (by omega) lim_ge))
  rw [filter_rows] at q
  unfold lw_3
  exact set_ow q
theorem lw4_ok {ns : List Int} {s1 s3 s4 : Sl} {m : Nat} (h1 : 1 ≤ m) (hm : m ≤ 6) : lw_4 (E0 ns s1 (.d (.int m)) s3 s4 .un .un) = .nx (E0 ns s1 (.d (.int m)) s3 s4 (.d (.int (num m))) .un) := by
  refine six (P := fun m : Nat => lw_4 (E0 ns s1 (.d (.int (m : Nat))) s3 s4 .un .un) = .nx (E0 ns s1 (.d (.int (m : Nat))) s3 s4 (.d (.int (num m))) .un)) ?_ ?_ ?_ ?_ ?_ ?_ h1 hm <;> kernel_rfl
theorem above_nil (m : Nat) : Above m [] := ⟨by simp, .nil, by simp⟩
theorem folds_nil (m : Nat) : foldsP m [] = flatL m := by
  unfold foldsP flatL gtAll
  simp
theorem lw5_ok {ns : List Int} {w : Ow} {s3 s4 s5 : Sl} {m : Nat} (hD : DkOk 1 w) (h1 : 1 ≤ m) (hm : m ≤ 6) : ∃ w', lw_5 (E0 ns (.ow w) (.d (.int m)) s3 s4 s5 .un) = .nx (E0 ns (.ow w') (.d (.int m)) s3 s4 s5 (.d (.tuple (rowsT (flatL m))))) ∧ DkOk 2 w' := by
  obtain ⟨r, w', hF, hr, hD'⟩ := draw_ok (many := 2) hD (by omega) (by omega) (by omega)
  refine ⟨w', ?_, hD'⟩
  have c1 := call_le (np := 2) (F := F__law_draw) (fr := dCons (dVar 1) (dCons (dC (.int 2)) dNil)) (env := E0 ns (.ow w) (.d (.int m)) s3 s4 s5 .un) (e1 := E0 ns (.ow w) (.d (.int m)) s3 s4 s5 .un) (as := [.int 2]) (i := 1) (w := w) (w' := w') rfl (.inl rfl) rfl hF rfl
  have c2 := bin_d (fb := dC (.int 0)) c1 rfl rfl rfl (eq_int0 r)
  have v2 : (E0 ns (.ow w') (.d (.int m)) s3 s4 s5 .un)[2]? = some (.d (.int m)) := rfl
  have f1 : dCall 2 F_folds (dCons (dSto (dVar 2)) (dCons (dTup dNil) dNil)) (E0 ns (.ow w') (.d (.int m)) s3 s4 s5 .un) = .ok (.d (.tuple (rowsT (foldsP m [])))) (E0 ns (.ow w') (.d (.int m)) s3 s4 s5 .un) := folds_c (above_nil m) h1 hm (sto_d (var_d v2)) rfl
  have f2 : dCallK 2 F_folds 0 2 [1, 0] dNil (dCons (dTup dNil) (dCons (dSto (dVar 2)) dNil)) (E0 ns (.ow w') (.d (.int m)) s3 s4 s5 .un) = .ok (.d (.tuple (rowsT (foldsP m [])))) (E0 ns (.ow w') (.d (.int m)) s3 s4 s5 .un) := folds_k (above_nil m) h1 hm rfl (sto_d (var_d v2))
  rw [folds_nil] at f1 f2
  unfold lw_5
  cases hq : ((r : Int) == 0) with
  | true =>
    rw [hq] at c2
    exact set_d (stb_d ((ifE_t c2).trans f1))
  | false =>
    rw [hq] at c2
    exact set_d (stb_d ((ifE_f c2).trans f2))
theorem lw6_ok {ns : List Int} {s1 s3 : Sl} {m : Nat} (h1 : 1 ≤ m) (hm : m ≤ 6) : lw_6 (E0 ns s1 (.d (.int m)) s3 (.ow (.lst (rowsT (flatL m)))) (.d (.int (num m))) (.d (.tuple (rowsT (flatL m))))) = .nx (E0 ns s1 (.d (.int m)) s3 (.ow (.lst (rowsT (flatL m)))) (.d (.int (num m))) (.d (.tuple (rowsT (flatL m))))) := by
  generalize he : E0 ns s1 (.d (.int m)) s3 (.ow (.lst (rowsT (flatL m)))) (.d (.int (num m))) (.d (.tuple (rowsT (flatL m)))) = e
  have v4 : e[4]? = some (.ow (.lst (rowsT (flatL m)))) := by rw [← he]; rfl
  have v5 : e[5]? = some (.d (.int (num m))) := by rw [← he]; rfl
  have v6 : e[6]? = some (.d (.tuple (rowsT (flatL m)))) := by rw [← he]; rfl
  have hv : Rv.val e (.bo 4) = some (.list (rowsT (flatL m))) := by
    unfold Rv.val; simp only []; rw [v4]
  have c1 : dCallB gLen (dCons (dVar 4) dNil) e = .ok (.d (.int (num m))) e := callB1 (ra := .bo 4) (var_ow v4) hv (by
    show some (Rv.d (.int ((rowsT (flatL m)).length : Nat))) = _
    rw [List.length_map, (flat_num h1 hm).1])
  have c2 := bin_s c1 (var_d v5) (ne_int (num m))
  have c3 : dSto (dCallB gTup (dCons (dVar 4) dNil)) e = .ok (.d (.tuple (rowsT (flatL m)))) e := sto_d (callB1 (ra := .bo 4) (var_ow v4) hv rfl)
  have sm : F__law_same [.d (.tuple (rowsT (flatL m))), .d (.tuple (rowsT (flatL m)))] = .ok (.d (.bool true)) [.d (.tuple (rowsT (flatL m))), .d (.tuple (rowsT (flatL m)))] := by
    obtain ⟨a, b⟩ := folds_sub hm []
    rw [folds_nil] at a b
    obtain ⟨c, d⟩ := rows_plain fun l hl => (b l hl).2
    exact same_ok _ c (by simp only [szD]; omega)
  unfold lw_6
  exact if_fp ((or_f c2).trans (same_call (sto_d (var_d v6)) c3 sm))
theorem lw7_ok {ns : List Int} {m : Nat} {w : Ow} {s5 s6 : Sl} (hD : DkOk 2 w) (h1 : 1 ≤ m) (hm : m ≤ 6) : ∃ w' x7 s8 s10 s11, lw_7 (E7 ns m w (.ow (.lst (rowsT (flatL m)))) s5 s6 .un .un .un .un) = .nx (E7 ns m w' (.d (.list (rowsT (flatL m)))) s5 s6 (.d x7) s8 s10 s11) ∧ DkOk 400 w' := by
  obtain ⟨e', d1, d2⟩ := for_inv (p := pName 7) (body := lw7_b) (fun k e => ∃ w s4 s7 s8 s10 s11, e = E7 ns m w s4 s5 s6 s7 s8 s10 s11 ∧ DkOk (2 + 103 * k) w ∧ ((k = 0 ∧ s4 = .ow (.lst (rowsT (flatL m)))) ∨ (s4 = .d (.list (rowsT (flatL m))) ∧ ∃ x7, s7 = .d x7))) (Dn.intsFrom 0 3) 0 (E7 ns m w (.ow (.lst (rowsT (flatL m)))) s5 s6 .un .un .un .un) ⟨w, _, _, _, _, _, rfl, by simpa using hD, .inl ⟨rfl, rfl⟩⟩ (by
    rintro x hx k e hk ⟨w, s4, s7, s8, s10, s11, rfl, hD, hs⟩
    have hk : k < 3 := by simpa [Dn.intsFrom] using hk
    obtain ⟨w', s8', s10', s11', r1, r2⟩ := body7 (ns := ns) (m := m) (s4 := s4) (s5 := s5) (s6 := s6) (s7 := .d x) (s8 := s8) (s10 := s10) (s11 := s11) hD (by omega) (by omega) h1 hm (by rcases hs with ⟨_, h⟩ | ⟨h, _⟩; exact .inl h; exact .inr h)
    exact ⟨_, _, rfl, r1, w', _, _, _, _, _, rfl, r2.le (by omega), .inr ⟨rfl, x, rfl⟩⟩)
  obtain ⟨w', s4, s7, s8, s10, s11, rfl, hD', hs⟩ := d2
  have hk : 0 + (Dn.intsFrom 0 3).length = 3 := rfl
  rw [hk] at hs hD'
  rcases hs with ⟨h, _⟩ | ⟨rfl, x7, rfl⟩
  · omega
  · refine ⟨w', x7, s8, s10, s11, ?_, hD'.le (by omega)⟩
    have a2 : iRange1 (dCons (dC (.int 3)) dNil) (E7 ns m w (.ow (.lst (rowsT (flatL m)))) s5 s6 .un .un .un .un) = .ok (Dn.intsFrom 0 3) (E7 ns m w (.ow (.lst (rowsT (flatL m)))) s5 s6 .un .un .un .un) := range1n (m := 3) rfl (by omega)
    unfold lw_7
    exact (for_d a2).trans d1
theorem law_true (ns : List Int) (hl : ns.length ≤ 63) (hb : ∀ z ∈ ns, Builtin.Int.intBits z ≤ 1048576) : ∃ outs, F_law [.scr ns] = .ok (.d (.bool true)) outs := by
  obtain ⟨w0, r0, hD0⟩ := lw0_ok ns hl
  obtain ⟨w1, m, r1, hD1, h1, hm⟩ := lw1_ok (ns := ns) hD0
  have r2 := lw2_ok (ns := ns) (s1 := .ow w1) h1 hm
  have r3 := lw3_ok (ns := ns) (s1 := .ow w1) h1 hm
  have r4 := lw4_ok (ns := ns) (s1 := .ow w1) (s3 := .d (.list (rowsT (ords m)))) (s4 := .ow (.lst (rowsT (flatL m)))) h1 hm
  obtain ⟨w2, r5, hD2⟩ := lw5_ok (ns := ns) (s3 := .d (.list (rowsT (ords m)))) (s4 := .ow (.lst (rowsT (flatL m)))) (s5 := .d (.int (num m))) hD1 h1 hm
  have r6 := lw6_ok (ns := ns) (s1 := .ow w2) (s3 := .d (.list (rowsT (ords m)))) h1 hm
  obtain ⟨w3, x7, s8, s10, s11, r7, hD3⟩ := lw7_ok (ns := ns) (s5 := .d (.int (num m))) (s6 := .d (.tuple (rowsT (flatL m)))) hD2 h1 hm
  obtain ⟨w4, ys, r8, hys, hD4⟩ := lw8_ok (ns := ns) (s4 := .d (.list (rowsT (flatL m)))) (s5 := .d (.int (num m))) (s6 := .d (.tuple (rowsT (flatL m)))) (s7 := .d x7) (s8 := s8) (s10 := s10) (s11 := s11) hD3 (by omega) h1 hm
  have hA := nb_above h1 hys
  obtain ⟨l, rows, hf⟩ := nb_fold h1 hm hys
  have r9 : lw_9 (E7 ns m w4 (.d (.list (rowsT (flatL m)))) (.d (.int (num m))) (.d (.tuple (rowsT (flatL m)))) (.d x7) (.d (tupP (sortB leP ys))) s10 s11) = .nx (E7 ns m w4 (.d (.list (rowsT (flatL m)))) (.d (.int (num m))) (.d (.tuple (rowsT (l :: rows)))) (.d x7) (.d (tupP (sortB leP ys))) s10 s11) := by
    have c := folds_c hA h1 hm (e := E7 ns m w4 (.d (.list (rowsT (flatL m)))) (.d (.int (num m))) (.d (.tuple (rowsT (flatL m)))) (.d x7) (.d (tupP (sortB leP ys))) s10 s11) (sto_d (var_d (i := 2) rfl)) (sto_d (var_d (i := 8) rfl))
    rw [hf] at c
    unfold lw_9
    exact set_d (stb_d c)
  have r10 : lw_10 (E7 ns m w4 (.d (.list (rowsT (flatL m)))) (.d (.int (num m))) (.d (.tuple (rowsT (l :: rows)))) (.d x7) (.d (tupP (sortB leP ys))) s10 s11) = .nx (E7 ns m w4 (.d (.list (rowsT (flatL m)))) (.d (.int (num m))) (.d (.tuple (rowsT (l :: rows)))) (.d x7) (.d (tupP (sortB leP ys))) s10 s11) := by
    have c1 : dNot (dUn (gIsi .tup) (dVar 6)) (E7 ns m w4 (.d (.list (rowsT (flatL m)))) (.d (.int (num m))) (.d (.tuple (rowsT (l :: rows)))) (.d x7) (.d (tupP (sortB leP ys))) s10 s11) = .ok (.d (.bool false)) (E7 ns m w4 (.d (.list (rowsT (flatL m)))) (.d (.int (num m))) (.d (.tuple (rowsT (l :: rows)))) (.d x7) (.d (tupP (sortB leP ys))) s10 s11) := rfl
    have c2 : dBin gEqA (dVar 6) (dTup dNil) (E7 ns m w4 (.d (.list (rowsT (flatL m)))) (.d (.int (num m))) (.d (.tuple (rowsT (l :: rows)))) (.d x7) (.d (tupP (sortB leP ys))) s10 s11) = .ok (.d (.bool false)) (E7 ns m w4 (.d (.list (rowsT (flatL m)))) (.d (.int (num m))) (.d (.tuple (rowsT (l :: rows)))) (.d x7) (.d (tupP (sortB leP ys))) s10 s11) := bin_s (var_d rfl) rfl (eq_rows l rows)
    unfold lw_10
    exact if_fp ((or_f c1).trans c2)
  obtain ⟨w5, e', r11, ⟨s6, s9, s10', s12, s13, rfl⟩⟩ := lw11_i (ns := ns) (s5 := .d (.int (num m))) (s6 := .d (.tuple (rowsT (l :: rows)))) (x7 := x7) (s8 := .d (tupP (sortB leP ys))) (s10 := s10) (s11 := s11) hD4 (by omega) h1 hm
  have key : d_law (E0 ns .un .un .un .un .un .un) = .ret (.d (.bool true)) [.scr ns, .ow w5, .d (.int m), .d (.list (rowsT (ords m))), .d (.list (rowsT (flatL m))), .d (.int (num m)), s6, .d x7, .d (tupP (sortB leP ys)), s9, s10', s11, s12, s13, .un, .un] := by
    rw [d_law_def, seq_nx r0, seq_nx r1, seq_nx r2, seq_nx r3, seq_nx r4, seq_nx r5, seq_nx r6, seq_nx r7, seq_nx r8, seq_nx r9, seq_nx r10, seq_nx r11]
    exact ret_d rfl
  exact ⟨[.scr ns], run_ret (g := d_law) (n := 16) (as := [.scr ns]) key⟩
end K39

set_option Elab.async false
set_option linter.all false
set_option maxRecDepth 100000
set_option maxHeartbeats 4000000
namespace K39
open PySem PySem.Spec PyProof.Rows L2 Dn
section
open De
theorem all_mk {l : PySem.W.OpenLaw} {w : World} {K0 K : PySem.W.Frag} {h : Heap} {mg : Str → Option Value} {fa : Addr} (hl : l.prog = l.prog) (X0 : K0.In h) (X : K.In h) (G : h.Ns mainGlobals mg) (hfa : mg "law" = some (.ref fa))
    {f__law_draw f__law_pick f__law_same f__law_whole f__law_is_layers f__law_facing f__law_heard f_is_whole f_is_whole_between f_are_layers f_facing f_do_cross f_has_crossing f_is_fold f__law_do_cross f__law_is_flat f__law_odd f_rows_of_heights f_folds_of f_is_tuple_of f_is_above f_need_strip f_folds f__law_are_refused f__law_mixed f__law_above f__law_orders f__law_deck f_law c_BadAbove c_BadLayers c_BadPanels i_BadAbove i_BadLayers i_BadPanels c_SheetError o__law_are_refused o_law p__law_are_refused p_law : Addr} {t_MOST_PANELS t_MOST_WHOLE : Tok}
    {od__law_draw an__law_draw : Option Addr} {sl__law_draw : Array (Option Value)} {oc__law_draw kV__law_draw dc__law_draw pm__law_draw cd__law_draw ct__law_draw : Value}
    {od__law_pick an__law_pick : Option Addr} {sl__law_pick : Array (Option Value)} {oc__law_pick kV__law_pick dc__law_pick pm__law_pick cd__law_pick ct__law_pick : Value}
    {od__law_same an__law_same : Option Addr} {sl__law_same : Array (Option Value)} {oc__law_same kV__law_same dc__law_same pm__law_same cd__law_same ct__law_same : Value}
    {od__law_whole an__law_whole : Option Addr} {sl__law_whole : Array (Option Value)} {oc__law_whole kV__law_whole dc__law_whole pm__law_whole cd__law_whole ct__law_whole : Value}
    {od__law_is_layers an__law_is_layers : Option Addr} {sl__law_is_layers : Array (Option Value)} {oc__law_is_layers kV__law_is_layers dc__law_is_layers pm__law_is_layers cd__law_is_layers ct__law_is_layers : Value}
    {od__law_facing an__law_facing : Option Addr} {sl__law_facing : Array (Option Value)} {oc__law_facing kV__law_facing dc__law_facing pm__law_facing cd__law_facing ct__law_facing : Value}
    {od__law_heard an__law_heard : Option Addr} {sl__law_heard : Array (Option Value)} {oc__law_heard kV__law_heard dc__law_heard pm__law_heard cd__law_heard ct__law_heard : Value}
    {od_is_whole an_is_whole : Option Addr} {sl_is_whole : Array (Option Value)} {oc_is_whole kV_is_whole dc_is_whole pm_is_whole cd_is_whole ct_is_whole : Value}
    {od_is_whole_between an_is_whole_between : Option Addr} {sl_is_whole_between : Array (Option Value)} {oc_is_whole_between kV_is_whole_between dc_is_whole_between pm_is_whole_between cd_is_whole_between ct_is_whole_between : Value}
    {od_are_layers an_are_layers : Option Addr} {sl_are_layers : Array (Option Value)} {oc_are_layers kV_are_layers dc_are_layers pm_are_layers cd_are_layers ct_are_layers : Value}
    {od_facing an_facing : Option Addr} {sl_facing : Array (Option Value)} {oc_facing kV_facing dc_facing pm_facing cd_facing ct_facing : Value}
    {od_do_cross an_do_cross : Option Addr} {sl_do_cross : Array (Option Value)} {oc_do_cross kV_do_cross dc_do_cross pm_do_cross cd_do_cross ct_do_cross : Value}
    {od_has_crossing an_has_crossing : Option Addr} {sl_has_crossing : Array (Option Value)} {oc_has_crossing kV_has_crossing dc_has_crossing pm_has_crossing cd_has_crossing ct_has_crossing : Value}
    {od_is_fold an_is_fold : Option Addr} {sl_is_fold : Array (Option Value)} {oc_is_fold kV_is_fold dc_is_fold pm_is_fold cd_is_fold ct_is_fold : Value}
    {od__law_do_cross an__law_do_cross : Option Addr} {sl__law_do_cross : Array (Option Value)} {oc__law_do_cross kV__law_do_cross dc__law_do_cross pm__law_do_cross cd__law_do_cross ct__law_do_cross : Value}
    {od__law_is_flat an__law_is_flat : Option Addr} {sl__law_is_flat : Array (Option Value)} {oc__law_is_flat kV__law_is_flat dc__law_is_flat pm__law_is_flat cd__law_is_flat ct__law_is_flat : Value}
    {od__law_odd an__law_odd : Option Addr} {sl__law_odd : Array (Option Value)} {oc__law_odd kV__law_odd dc__law_odd pm__law_odd cd__law_odd ct__law_odd : Value}
    {od_rows_of_heights an_rows_of_heights : Option Addr} {sl_rows_of_heights : Array (Option Value)} {oc_rows_of_heights kV_rows_of_heights dc_rows_of_heights pm_rows_of_heights cd_rows_of_heights ct_rows_of_heights : Value}
    {od_folds_of an_folds_of : Option Addr} {sl_folds_of : Array (Option Value)} {oc_folds_of kV_folds_of dc_folds_of pm_folds_of cd_folds_of ct_folds_of : Value}
    {od_is_tuple_of an_is_tuple_of : Option Addr} {sl_is_tuple_of : Array (Option Value)} {oc_is_tuple_of kV_is_tuple_of dc_is_tuple_of pm_is_tuple_of cd_is_tuple_of ct_is_tuple_of : Value}
    {od_is_above an_is_above : Option Addr} {sl_is_above : Array (Option Value)} {oc_is_above kV_is_above dc_is_above pm_is_above cd_is_above ct_is_above : Value}
    {od_need_strip an_need_strip : Option Addr} {sl_need_strip : Array (Option Value)} {oc_need_strip kV_need_strip dc_need_strip pm_need_strip cd_need_strip ct_need_strip : Value}
    {od_folds an_folds : Option Addr} {sl_folds : Array (Option Value)} {oc_folds kV_folds dc_folds pm_folds cd_folds ct_folds : Value}
    {od__law_are_refused an__law_are_refused : Option Addr} {sl__law_are_refused : Array (Option Value)} {oc__law_are_refused kV__law_are_refused dc__law_are_refused pm__law_are_refused ct__law_are_refused : Value}
    {cod__law_are_refused : Option Addr} {cvs__law_are_refused : Array Value} {csl__law_are_refused : Array (Option Value)} {file__law_are_refused : Str} {flags__law_are_refused text__law_are_refused : Int} {ctf__law_are_refused ctg__law_are_refused ctt__law_are_refused : Tok} {inF__law_are_refused : Bool}
    {od__law_mixed an__law_mixed : Option Addr} {sl__law_mixed : Array (Option Value)} {oc__law_mixed kV__law_mixed dc__law_mixed pm__law_mixed cd__law_mixed ct__law_mixed : Value}
    {od__law_above an__law_above : Option Addr} {sl__law_above : Array (Option Value)} {oc__law_above kV__law_above dc__law_above pm__law_above cd__law_above ct__law_above : Value}
    {od__law_orders an__law_orders : Option Addr} {sl__law_orders : Array (Option Value)} {oc__law_orders kV__law_orders dc__law_orders pm__law_orders cd__law_orders ct__law_orders : Value}
    {od__law_deck an__law_deck : Option Addr} {sl__law_deck : Array (Option Value)} {oc__law_deck kV__law_deck dc__law_deck pm__law_deck cd__law_deck ct__law_deck : Value}
    {od_law an_law : Option Addr} {sl_law : Array (Option Value)} {oc_law kV_law dc_law pm_law ct_law : Value}
    {cod_law : Option Addr} {cvs_law : Array Value} {csl_law : Array (Option Value)} {file_law : Str} {flags_law text_law : Int} {ctf_law ctg_law ctt_law : Tok} {inF_law : Bool}
    {nm_BadAbove qn_BadAbove : Str} {N_BadAbove : Addr} {bs_BadAbove bm_BadAbove : List Value} {sn_BadAbove : List Str} {su_BadAbove : List Value} {ab_BadAbove : Bool} {co_BadAbove : Option Bool} {dd_BadAbove : Option Addr} {g0_BadAbove g1_BadAbove g2_BadAbove g3_BadAbove g5_BadAbove : Option Value}
    {od_BadAbove an_BadAbove : Option Addr} {sl_BadAbove : Array (Option Value)} {oc_BadAbove kV_BadAbove dc_BadAbove pm_BadAbove cd_BadAbove ct_BadAbove : Value}
    {nm_BadLayers qn_BadLayers : Str} {N_BadLayers : Addr} {bs_BadLayers bm_BadLayers : List Value} {sn_BadLayers : List Str} {su_BadLayers : List Value} {ab_BadLayers : Bool} {co_BadLayers : Option Bool} {dd_BadLayers : Option Addr} {g0_BadLayers g1_BadLayers g2_BadLayers g3_BadLayers g5_BadLayers : Option Value}
    {od_BadLayers an_BadLayers : Option Addr} {sl_BadLayers : Array (Option Value)} {oc_BadLayers kV_BadLayers dc_BadLayers pm_BadLayers cd_BadLayers ct_BadLayers : Value}
    {nm_BadPanels qn_BadPanels : Str} {N_BadPanels : Addr} {bs_BadPanels bm_BadPanels : List Value} {sn_BadPanels : List Str} {su_BadPanels : List Value} {ab_BadPanels : Bool} {co_BadPanels : Option Bool} {dd_BadPanels : Option Addr} {g0_BadPanels g1_BadPanels g2_BadPanels g3_BadPanels g5_BadPanels : Option Value}
    {od_BadPanels an_BadPanels : Option Addr} {sl_BadPanels : Array (Option Value)} {oc_BadPanels kV_BadPanels dc_BadPanels pm_BadPanels cd_BadPanels ct_BadPanels : Value}
    (aa__law_are_refused : PySem.W.nsIn K0 mainGlobals "_law_are_refused" = some (some (.ref f__law_are_refused)))
    (ll__law_are_refused : K0.lookup f__law_are_refused = some ⟨oc__law_are_refused, od__law_are_refused, .func (PySem.W.fnOf "_law_are_refused" "_law_are_refused" (defArgs s__law_are_refused) (defBody s__law_are_refused) (defScope s__law_are_refused) .none kV__law_are_refused dc__law_are_refused pm__law_are_refused an__law_are_refused (.ref o__law_are_refused) ct__law_are_refused), sl__law_are_refused⟩)
    (cl__law_are_refused : K0.lookup o__law_are_refused = some ⟨.type "code", cod__law_are_refused, .fields cvs__law_are_refused, csl__law_are_refused⟩)
    (c1__law_are_refused : cvs__law_are_refused[11]? = some (.ref p__law_are_refused))
    (c2__law_are_refused : cvs__law_are_refused.getD 11 .none = .ref p__law_are_refused)
    (c3__law_are_refused : cvs__law_are_refused.getD 18 .none = .str file__law_are_refused ctf__law_are_refused)
    (c4__law_are_refused : cvs__law_are_refused.getD 7 .none = .int flags__law_are_refused ctg__law_are_refused)
    (c5__law_are_refused : cvs__law_are_refused.getD 9 .none = .bool inF__law_are_refused)
    (c6__law_are_refused : cvs__law_are_refused.getD 10 .none = .int text__law_are_refused ctt__law_are_refused)
    (c7__law_are_refused : o__law_are_refused ≠ p__law_are_refused)
    (tb__law_are_refused : h.get? p__law_are_refused = some (PySem.W.tabObj #[]))
    (aa_law : PySem.W.nsIn K0 mainGlobals "law" = some (some (.ref f_law)))
    (ll_law : K0.lookup f_law = some ⟨oc_law, od_law, .func (PySem.W.fnOf "law" "law" (defArgs s_law) (defBody s_law) (defScope s_law) .none kV_law dc_law pm_law an_law (.ref o_law) ct_law), sl_law⟩)
    (cl_law : K0.lookup o_law = some ⟨.type "code", cod_law, .fields cvs_law, csl_law⟩)
    (c1_law : cvs_law[11]? = some (.ref p_law))
    (c2_law : cvs_law.getD 11 .none = .ref p_law)
    (c3_law : cvs_law.getD 18 .none = .str file_law ctf_law)
    (c4_law : cvs_law.getD 7 .none = .int flags_law ctg_law)
    (c5_law : cvs_law.getD 9 .none = .bool inF_law)
    (c6_law : cvs_law.getD 10 .none = .int text_law ctt_law)
    (c7_law : o_law ≠ p_law)
    (tb_law : h.get? p_law = some (PySem.W.tabObj #[]))
    (pd__law_are_refused_law : p__law_are_refused ≠ p_law)
    (pd_law__law_are_refused : p_law ≠ p__law_are_refused)
    (a__law_draw : PySem.W.nsIn K mainGlobals "_law_draw" = some (some (.ref f__law_draw)))
    (l__law_draw : K.lookup f__law_draw = some ⟨oc__law_draw, od__law_draw, .func (PySem.W.fnOf "_law_draw" "_law_draw" (defArgs s__law_draw) (defBody s__law_draw) (defScope s__law_draw) .none kV__law_draw dc__law_draw pm__law_draw an__law_draw cd__law_draw ct__law_draw), sl__law_draw⟩)
    (q__law_draw : PySem.W.codeIn K cd__law_draw "_law_draw" = true)
    (k__law_draw : PySem.W.keepIn K (.ref f__law_draw) = true)
    (a__law_pick : PySem.W.nsIn K mainGlobals "_law_pick" = some (some (.ref f__law_pick)))
    (l__law_pick : K.lookup f__law_pick = some ⟨oc__law_pick, od__law_pick, .func (PySem.W.fnOf "_law_pick" "_law_pick" (defArgs s__law_pick) (defBody s__law_pick) (defScope s__law_pick) .none kV__law_pick dc__law_pick pm__law_pick an__law_pick cd__law_pick ct__law_pick), sl__law_pick⟩)
    (q__law_pick : PySem.W.codeIn K cd__law_pick "_law_pick" = true)
    (k__law_pick : PySem.W.keepIn K (.ref f__law_pick) = true)
    (a__law_same : PySem.W.nsIn K mainGlobals "_law_same" = some (some (.ref f__law_same)))
    (l__law_same : K.lookup f__law_same = some ⟨oc__law_same, od__law_same, .func (PySem.W.fnOf "_law_same" "_law_same" (defArgs s__law_same) (defBody s__law_same) (defScope s__law_same) .none kV__law_same dc__law_same pm__law_same an__law_same cd__law_same ct__law_same), sl__law_same⟩)
    (q__law_same : PySem.W.codeIn K cd__law_same "_law_same" = true)
    (k__law_same : PySem.W.keepIn K (.ref f__law_same) = true)
    (a__law_whole : PySem.W.nsIn K mainGlobals "_law_whole" = some (some (.ref f__law_whole)))
    (l__law_whole : K.lookup f__law_whole = some ⟨oc__law_whole, od__law_whole, .func (PySem.W.fnOf "_law_whole" "_law_whole" (defArgs s__law_whole) (defBody s__law_whole) (defScope s__law_whole) .none kV__law_whole dc__law_whole pm__law_whole an__law_whole cd__law_whole ct__law_whole), sl__law_whole⟩)
    (q__law_whole : PySem.W.codeIn K cd__law_whole "_law_whole" = true)
    (k__law_whole : PySem.W.keepIn K (.ref f__law_whole) = true)
    (a__law_is_layers : PySem.W.nsIn K mainGlobals "_law_is_layers" = some (some (.ref f__law_is_layers)))
    (l__law_is_layers : K.lookup f__law_is_layers = some ⟨oc__law_is_layers, od__law_is_layers, .func (PySem.W.fnOf "_law_is_layers" "_law_is_layers" (defArgs s__law_is_layers) (defBody s__law_is_layers) (defScope s__law_is_layers) .none kV__law_is_layers dc__law_is_layers pm__law_is_layers an__law_is_layers cd__law_is_layers ct__law_is_layers), sl__law_is_layers⟩)
    (q__law_is_layers : PySem.W.codeIn K cd__law_is_layers "_law_is_layers" = true)
    (k__law_is_layers : PySem.W.keepIn K (.ref f__law_is_layers) = true)
    (a__law_facing : PySem.W.nsIn K mainGlobals "_law_facing" = some (some (.ref f__law_facing)))
    (l__law_facing : K.lookup f__law_facing = some ⟨oc__law_facing, od__law_facing, .func (PySem.W.fnOf "_law_facing" "_law_facing" (defArgs s__law_facing) (defBody s__law_facing) (defScope s__law_facing) .none kV__law_facing dc__law_facing pm__law_facing an__law_facing cd__law_facing ct__law_facing), sl__law_facing⟩)
    (q__law_facing : PySem.W.codeIn K cd__law_facing "_law_facing" = true)
    (k__law_facing : PySem.W.keepIn K (.ref f__law_facing) = true)
    (a__law_heard : PySem.W.nsIn K mainGlobals "_law_heard" = some (some (.ref f__law_heard)))
    (l__law_heard : K.lookup f__law_heard = some ⟨oc__law_heard, od__law_heard, .func (PySem.W.fnOf "_law_heard" "_law_heard" (defArgs s__law_heard) (defBody s__law_heard) (defScope s__law_heard) .none kV__law_heard dc__law_heard pm__law_heard an__law_heard cd__law_heard ct__law_heard), sl__law_heard⟩)
    (q__law_heard : PySem.W.codeIn K cd__law_heard "_law_heard" = true)
    (k__law_heard : PySem.W.keepIn K (.ref f__law_heard) = true)
    (a_is_whole : PySem.W.nsIn K mainGlobals "is_whole" = some (some (.ref f_is_whole)))
    (l_is_whole : K.lookup f_is_whole = some ⟨oc_is_whole, od_is_whole, .func (PySem.W.fnOf "is_whole" "is_whole" (defArgs s_is_whole) (defBody s_is_whole) (defScope s_is_whole) .none kV_is_whole dc_is_whole pm_is_whole an_is_whole cd_is_whole ct_is_whole), sl_is_whole⟩)
    (q_is_whole : PySem.W.codeIn K cd_is_whole "is_whole" = true)
    (k_is_whole : PySem.W.keepIn K (.ref f_is_whole) = true)
    (a_is_whole_between : PySem.W.nsIn K mainGlobals "is_whole_between" = some (some (.ref f_is_whole_between)))
    (l_is_whole_between : K.lookup f_is_whole_between = some ⟨oc_is_whole_between, od_is_whole_between, .func (PySem.W.fnOf "is_whole_between" "is_whole_between" (defArgs s_is_whole_between) (defBody s_is_whole_between) (defScope s_is_whole_between) .none kV_is_whole_between dc_is_whole_between pm_is_whole_between an_is_whole_between cd_is_whole_between ct_is_whole_between), sl_is_whole_between⟩)
    (q_is_whole_between : PySem.W.codeIn K cd_is_whole_between "is_whole_between" = true)
    (k_is_whole_between : PySem.W.keepIn K (.ref f_is_whole_between) = true)
    (a_are_layers : PySem.W.nsIn K mainGlobals "are_layers" = some (some (.ref f_are_layers)))
    (l_are_layers : K.lookup f_are_layers = some ⟨oc_are_layers, od_are_layers, .func (PySem.W.fnOf "are_layers" "are_layers" (defArgs s_are_layers) (defBody s_are_layers) (defScope s_are_layers) .none kV_are_layers dc_are_layers pm_are_layers an_are_layers cd_are_layers ct_are_layers), sl_are_layers⟩)
    (q_are_layers : PySem.W.codeIn K cd_are_layers "are_layers" = true)
    (k_are_layers : PySem.W.keepIn K (.ref f_are_layers) = true)
    (a_facing : PySem.W.nsIn K mainGlobals "facing" = some (some (.ref f_facing)))
    (l_facing : K.lookup f_facing = some ⟨oc_facing, od_facing, .func (PySem.W.fnOf "facing" "facing" (defArgs s_facing) (defBody s_facing) (defScope s_facing) .none kV_facing dc_facing pm_facing an_facing cd_facing ct_facing), sl_facing⟩)
    (q_facing : PySem.W.codeIn K cd_facing "facing" = true)
    (k_facing : PySem.W.keepIn K (.ref f_facing) = true)
    (a_do_cross : PySem.W.nsIn K mainGlobals "do_cross" = some (some (.ref f_do_cross)))
    (l_do_cross : K.lookup f_do_cross = some ⟨oc_do_cross, od_do_cross, .func (PySem.W.fnOf "do_cross" "do_cross" (defArgs s_do_cross) (defBody s_do_cross) (defScope s_do_cross) .none kV_do_cross dc_do_cross pm_do_cross an_do_cross cd_do_cross ct_do_cross), sl_do_cross⟩)
    (q_do_cross : PySem.W.codeIn K cd_do_cross "do_cross" = true)
    (k_do_cross : PySem.W.keepIn K (.ref f_do_cross) = true)
    (a_has_crossing : PySem.W.nsIn K mainGlobals "has_crossing" = some (some (.ref f_has_crossing)))
    (l_has_crossing : K.lookup f_has_crossing = some ⟨oc_has_crossing, od_has_crossing, .func (PySem.W.fnOf "has_crossing" "has_crossing" (defArgs s_has_crossing) (defBody s_has_crossing) (defScope s_has_crossing) .none kV_has_crossing dc_has_crossing pm_has_crossing an_has_crossing cd_has_crossing ct_has_crossing), sl_has_crossing⟩)
    (q_has_crossing : PySem.W.codeIn K cd_has_crossing "has_crossing" = true)
    (k_has_crossing : PySem.W.keepIn K (.ref f_has_crossing) = true)
    (a_is_fold : PySem.W.nsIn K mainGlobals "is_fold" = some (some (.ref f_is_fold)))
    (l_is_fold : K.lookup f_is_fold = some ⟨oc_is_fold, od_is_fold, .func (PySem.W.fnOf "is_fold" "is_fold" (defArgs s_is_fold) (defBody s_is_fold) (defScope s_is_fold) .none kV_is_fold dc_is_fold pm_is_fold an_is_fold cd_is_fold ct_is_fold), sl_is_fold⟩)
    (q_is_fold : PySem.W.codeIn K cd_is_fold "is_fold" = true)
    (k_is_fold : PySem.W.keepIn K (.ref f_is_fold) = true)
    (a__law_do_cross : PySem.W.nsIn K mainGlobals "_law_do_cross" = some (some (.ref f__law_do_cross)))
    (l__law_do_cross : K.lookup f__law_do_cross = some ⟨oc__law_do_cross, od__law_do_cross, .func (PySem.W.fnOf "_law_do_cross" "_law_do_cross" (defArgs s__law_do_cross) (defBody s__law_do_cross) (defScope s__law_do_cross) .none kV__law_do_cross dc__law_do_cross pm__law_do_cross an__law_do_cross cd__law_do_cross ct__law_do_cross), sl__law_do_cross⟩)
    (q__law_do_cross : PySem.W.codeIn K cd__law_do_cross "_law_do_cross" = true)
    (k__law_do_cross : PySem.W.keepIn K (.ref f__law_do_cross) = true)
    (a__law_is_flat : PySem.W.nsIn K mainGlobals "_law_is_flat" = some (some (.ref f__law_is_flat)))
    (l__law_is_flat : K.lookup f__law_is_flat = some ⟨oc__law_is_flat, od__law_is_flat, .func (PySem.W.fnOf "_law_is_flat" "_law_is_flat" (defArgs s__law_is_flat) (defBody s__law_is_flat) (defScope s__law_is_flat) .none kV__law_is_flat dc__law_is_flat pm__law_is_flat an__law_is_flat cd__law_is_flat ct__law_is_flat), sl__law_is_flat⟩)
    (q__law_is_flat : PySem.W.codeIn K cd__law_is_flat "_law_is_flat" = true)
    (k__law_is_flat : PySem.W.keepIn K (.ref f__law_is_flat) = true)
    (a__law_odd : PySem.W.nsIn K mainGlobals "_law_odd" = some (some (.ref f__law_odd)))
    (l__law_odd : K.lookup f__law_odd = some ⟨oc__law_odd, od__law_odd, .func (PySem.W.fnOf "_law_odd" "_law_odd" (defArgs s__law_odd) (defBody s__law_odd) (defScope s__law_odd) .none kV__law_odd dc__law_odd pm__law_odd an__law_odd cd__law_odd ct__law_odd), sl__law_odd⟩)
    (q__law_odd : PySem.W.codeIn K cd__law_odd "_law_odd" = true)
    (k__law_odd : PySem.W.keepIn K (.ref f__law_odd) = true)
    (a_rows_of_heights : PySem.W.nsIn K mainGlobals "rows_of_heights" = some (some (.ref f_rows_of_heights)))
    (l_rows_of_heights : K.lookup f_rows_of_heights = some ⟨oc_rows_of_heights, od_rows_of_heights, .func (PySem.W.fnOf "rows_of_heights" "rows_of_heights" (defArgs s_rows_of_heights) (defBody s_rows_of_heights) (defScope s_rows_of_heights) .none kV_rows_of_heights dc_rows_of_heights pm_rows_of_heights an_rows_of_heights cd_rows_of_heights ct_rows_of_heights), sl_rows_of_heights⟩)
    (q_rows_of_heights : PySem.W.codeIn K cd_rows_of_heights "rows_of_heights" = true)
    (k_rows_of_heights : PySem.W.keepIn K (.ref f_rows_of_heights) = true)
    (a_folds_of : PySem.W.nsIn K mainGlobals "folds_of" = some (some (.ref f_folds_of)))
    (l_folds_of : K.lookup f_folds_of = some ⟨oc_folds_of, od_folds_of, .func (PySem.W.fnOf "folds_of" "folds_of" (defArgs s_folds_of) (defBody s_folds_of) (defScope s_folds_of) .none kV_folds_of dc_folds_of pm_folds_of an_folds_of cd_folds_of ct_folds_of), sl_folds_of⟩)
    (q_folds_of : PySem.W.codeIn K cd_folds_of "folds_of" = true)
    (k_folds_of : PySem.W.keepIn K (.ref f_folds_of) = true)
    (a_is_tuple_of : PySem.W.nsIn K mainGlobals "is_tuple_of" = some (some (.ref f_is_tuple_of)))
    (l_is_tuple_of : K.lookup f_is_tuple_of = some ⟨oc_is_tuple_of, od_is_tuple_of, .func (PySem.W.fnOf "is_tuple_of" "is_tuple_of" (defArgs s_is_tuple_of) (defBody s_is_tuple_of) (defScope s_is_tuple_of) .none kV_is_tuple_of dc_is_tuple_of pm_is_tuple_of an_is_tuple_of cd_is_tuple_of ct_is_tuple_of), sl_is_tuple_of⟩)
    (q_is_tuple_of : PySem.W.codeIn K cd_is_tuple_of "is_tuple_of" = true)
    (k_is_tuple_of : PySem.W.keepIn K (.ref f_is_tuple_of) = true)
    (a_is_above : PySem.W.nsIn K mainGlobals "is_above" = some (some (.ref f_is_above)))
    (l_is_above : K.lookup f_is_above = some ⟨oc_is_above, od_is_above, .func (PySem.W.fnOf "is_above" "is_above" (defArgs s_is_above) (defBody s_is_above) (defScope s_is_above) .none kV_is_above dc_is_above pm_is_above an_is_above cd_is_above ct_is_above), sl_is_above⟩)
    (q_is_above : PySem.W.codeIn K cd_is_above "is_above" = true)
    (k_is_above : PySem.W.keepIn K (.ref f_is_above) = true)
    (a_need_strip : PySem.W.nsIn K mainGlobals "need_strip" = some (some (.ref f_need_strip)))
    (l_need_strip : K.lookup f_need_strip = some ⟨oc_need_strip, od_need_strip, .func (PySem.W.fnOf "need_strip" "need_strip" (defArgs s_need_strip) (defBody s_need_strip) (defScope s_need_strip) .none kV_need_strip dc_need_strip pm_need_strip an_need_strip cd_need_strip ct_need_strip), sl_need_strip⟩)
    (q_need_strip : PySem.W.codeIn K cd_need_strip "need_strip" = true)
    (k_need_strip : PySem.W.keepIn K (.ref f_need_strip) = true)
    (a_folds : PySem.W.nsIn K mainGlobals "folds" = some (some (.ref f_folds)))
    (l_folds : K.lookup f_folds = some ⟨oc_folds, od_folds, .func (PySem.W.fnOf "folds" "folds" (defArgs s_folds) (defBody s_folds) (defScope s_folds) .none kV_folds dc_folds pm_folds an_folds cd_folds ct_folds), sl_folds⟩)
    (q_folds : PySem.W.codeIn K cd_folds "folds" = true)
    (k_folds : PySem.W.keepIn K (.ref f_folds) = true)
    (a__law_are_refused : PySem.W.nsIn K mainGlobals "_law_are_refused" = some (some (.ref f__law_are_refused)))
    (l__law_are_refused : K.lookup f__law_are_refused = some ⟨oc__law_are_refused, od__law_are_refused, .func (PySem.W.fnOf "_law_are_refused" "_law_are_refused" (defArgs s__law_are_refused) (defBody s__law_are_refused) (defScope s__law_are_refused) .none kV__law_are_refused dc__law_are_refused pm__law_are_refused an__law_are_refused (.ref o__law_are_refused) ct__law_are_refused), sl__law_are_refused⟩)
    (q__law_are_refused : PySem.W.codeIn K (.ref o__law_are_refused) "_law_are_refused" = true)
    (k__law_are_refused : PySem.W.keepIn K (.ref f__law_are_refused) = true)
    (a__law_mixed : PySem.W.nsIn K mainGlobals "_law_mixed" = some (some (.ref f__law_mixed)))
    (l__law_mixed : K.lookup f__law_mixed = some ⟨oc__law_mixed, od__law_mixed, .func (PySem.W.fnOf "_law_mixed" "_law_mixed" (defArgs s__law_mixed) (defBody s__law_mixed) (defScope s__law_mixed) .none kV__law_mixed dc__law_mixed pm__law_mixed an__law_mixed cd__law_mixed ct__law_mixed), sl__law_mixed⟩)
    (q__law_mixed : PySem.W.codeIn K cd__law_mixed "_law_mixed" = true)
    (k__law_mixed : PySem.W.keepIn K (.ref f__law_mixed) = true)
    (a__law_above : PySem.W.nsIn K mainGlobals "_law_above" = some (some (.ref f__law_above)))
    (l__law_above : K.lookup f__law_above = some ⟨oc__law_above, od__law_above, .func (PySem.W.fnOf "_law_above" "_law_above" (defArgs s__law_above) (defBody s__law_above) (defScope s__law_above) .none kV__law_above dc__law_above pm__law_above an__law_above cd__law_above ct__law_above), sl__law_above⟩)
    (q__law_above : PySem.W.codeIn K cd__law_above "_law_above" = true)
    (k__law_above : PySem.W.keepIn K (.ref f__law_above) = true)
    (a__law_orders : PySem.W.nsIn K mainGlobals "_law_orders" = some (some (.ref f__law_orders)))
    (l__law_orders : K.lookup f__law_orders = some ⟨oc__law_orders, od__law_orders, .func (PySem.W.fnOf "_law_orders" "_law_orders" (defArgs s__law_orders) (defBody s__law_orders) (defScope s__law_orders) .none kV__law_orders dc__law_orders pm__law_orders an__law_orders cd__law_orders ct__law_orders), sl__law_orders⟩)
    (q__law_orders : PySem.W.codeIn K cd__law_orders "_law_orders" = true)
    (k__law_orders : PySem.W.keepIn K (.ref f__law_orders) = true)
    (a__law_deck : PySem.W.nsIn K mainGlobals "_law_deck" = some (some (.ref f__law_deck)))
    (l__law_deck : K.lookup f__law_deck = some ⟨oc__law_deck, od__law_deck, .func (PySem.W.fnOf "_law_deck" "_law_deck" (defArgs s__law_deck) (defBody s__law_deck) (defScope s__law_deck) .none kV__law_deck dc__law_deck pm__law_deck an__law_deck cd__law_deck ct__law_deck), sl__law_deck⟩)
    (q__law_deck : PySem.W.codeIn K cd__law_deck "_law_deck" = true)
    (k__law_deck : PySem.W.keepIn K (.ref f__law_deck) = true)
    (a_law : PySem.W.nsIn K mainGlobals "law" = some (some (.ref f_law)))
    (l_law : K.lookup f_law = some ⟨oc_law, od_law, .func (PySem.W.fnOf "law" "law" (defArgs s_law) (defBody s_law) (defScope s_law) .none kV_law dc_law pm_law an_law (.ref o_law) ct_law), sl_law⟩)
    (q_law : PySem.W.codeIn K (.ref o_law) "law" = true)
    (k_law : PySem.W.keepIn K (.ref f_law) = true)
    (n_abs : PySem.W.nsIn K mainGlobals "abs" = some none)
    (n_all : PySem.W.nsIn K mainGlobals "all" = some none)
    (n_any : PySem.W.nsIn K mainGlobals "any" = some none)
    (n_bool : PySem.W.nsIn K mainGlobals "bool" = some none)
    (n_dict : PySem.W.nsIn K mainGlobals "dict" = some none)
    (n_int : PySem.W.nsIn K mainGlobals "int" = some none)
    (n_isinstance : PySem.W.nsIn K mainGlobals "isinstance" = some none)
    (n_len : PySem.W.nsIn K mainGlobals "len" = some none)
    (n_list : PySem.W.nsIn K mainGlobals "list" = some none)
    (n_max : PySem.W.nsIn K mainGlobals "max" = some none)
    (n_min : PySem.W.nsIn K mainGlobals "min" = some none)
    (n_range : PySem.W.nsIn K mainGlobals "range" = some none)
    (n_repr : PySem.W.nsIn K mainGlobals "repr" = some none)
    (n_sorted : PySem.W.nsIn K mainGlobals "sorted" = some none)
    (n_str : PySem.W.nsIn K mainGlobals "str" = some none)
    (n_tuple : PySem.W.nsIn K mainGlobals "tuple" = some none)
    (n_zip : PySem.W.nsIn K mainGlobals "zip" = some none)
    (v_MOST_PANELS : PySem.W.nsIn K mainGlobals "MOST_PANELS" = some (some (.int c_MOST_PANELS t_MOST_PANELS)))
    (v_MOST_WHOLE : PySem.W.nsIn K mainGlobals "MOST_WHOLE" = some (some (.int c_MOST_WHOLE t_MOST_WHOLE)))
    (a_SheetError : PySem.W.nsIn K mainGlobals "SheetError" = some (some (.ref c_SheetError)))
    (a_BadAbove : PySem.W.nsIn K mainGlobals "BadAbove" = some (some (.ref c_BadAbove)))
    (a_BadLayers : PySem.W.nsIn K mainGlobals "BadLayers" = some (some (.ref c_BadLayers)))
    (a_BadPanels : PySem.W.nsIn K mainGlobals "BadPanels" = some (some (.ref c_BadPanels)))
    (e_BadAbove : K.lookup c_BadAbove = some (excClassObj nm_BadAbove qn_BadAbove c_BadAbove N_BadAbove bs_BadAbove bm_BadAbove true sn_BadAbove su_BadAbove ab_BadAbove co_BadAbove dd_BadAbove g0_BadAbove g1_BadAbove g2_BadAbove g3_BadAbove g5_BadAbove "Exception.__new__"))
    (w_BadAbove : Dx.ownEx bm_BadAbove = true)
    (in_BadAbove : PySem.W.findIn K (.ref c_BadAbove) "__init__" = some (some (.ref i_BadAbove)))
    (ti_BadAbove : PySem.W.typeIn K (.ref i_BadAbove) = some (.type "function"))
    (l_BadAbove : K.lookup i_BadAbove = some ⟨oc_BadAbove, od_BadAbove, .func (PySem.W.fnOf "__init__" "BadAbove.__init__" (defArgs s_BadAbove) (defBody s_BadAbove) (defScope s_BadAbove) .none kV_BadAbove dc_BadAbove pm_BadAbove an_BadAbove cd_BadAbove ct_BadAbove), sl_BadAbove⟩)
    (q_BadAbove : PySem.W.codeIn K cd_BadAbove "BadAbove.__init__" = true)
    (k_BadAbove : PySem.W.keepIn K (.ref i_BadAbove) = true)
    (sa_BadAbove : PySem.W.findIn K (.ref c_BadAbove) "__setattr__" = some (some (.builtin "object.__setattr__")))
    (no_BadAbove : PySem.W.findIn K (.ref c_BadAbove) "thing" = some none)
    (ex_BadAbove : PySem.W.subIn K (.ref c_BadAbove) (.type "BaseException") = some true)
    (ty_BadAbove : PySem.W.typeIn K (.ref c_BadAbove) = some (.type "type"))
    (kc_BadAbove : PySem.W.keepIn K (.ref c_BadAbove) = true)
    (ga_BadAbove : PySem.W.findIn K (.ref c_BadAbove) "__getattribute__" = some (some (.builtin "BaseException.__getattribute__")))
    (gg_BadAbove : PySem.W.findIn K (.ref c_BadAbove) "__getattr__" = some none)
    (hd_BadAbove : PySem.W.hasDictIn K c_BadAbove = true)
    (cc_BadAbove : PySem.W.findIn K (.ref c_BadAbove) "__class__" = some (some (.builtin "object.__class__")))
    (mo_BadAbove : PySem.W.mroIn K c_BadAbove (.type "object") = some true)
    (is_BadAbove : PySem.W.kitOne K (.ref c_BadAbove) (.ref c_SheetError) = some true)
    (m_BadAbove_BadAbove : PySem.W.exmOne K (.ref c_BadAbove) (.ref c_BadAbove) = some true)
    (m_BadAbove_BadLayers : PySem.W.exmOne K (.ref c_BadAbove) (.ref c_BadLayers) = some false)
    (m_BadAbove_BadPanels : PySem.W.exmOne K (.ref c_BadAbove) (.ref c_BadPanels) = some false)
    (e_BadLayers : K.lookup c_BadLayers = some (excClassObj nm_BadLayers qn_BadLayers c_BadLayers N_BadLayers bs_BadLayers bm_BadLayers true sn_BadLayers su_BadLayers ab_BadLayers co_BadLayers dd_BadLayers g0_BadLayers g1_BadLayers g2_BadLayers g3_BadLayers g5_BadLayers "Exception.__new__"))
    (w_BadLayers : Dx.ownEx bm_BadLayers = true)
    (in_BadLayers : PySem.W.findIn K (.ref c_BadLayers) "__init__" = some (some (.ref i_BadLayers)))
    (ti_BadLayers : PySem.W.typeIn K (.ref i_BadLayers) = some (.type "function"))
    (l_BadLayers : K.lookup i_BadLayers = some ⟨oc_BadLayers, od_BadLayers, .func (PySem.W.fnOf "__init__" "BadLayers.__init__" (defArgs s_BadLayers) (defBody s_BadLayers) (defScope s_BadLayers) .none kV_BadLayers dc_BadLayers pm_BadLayers an_BadLayers cd_BadLayers ct_BadLayers), sl_BadLayers⟩)
    (q_BadLayers : PySem.W.codeIn K cd_BadLayers "BadLayers.__init__" = true)
    (k_BadLayers : PySem.W.keepIn K (.ref i_BadLayers) = true)
    (sa_BadLayers : PySem.W.findIn K (.ref c_BadLayers) "__setattr__" = some (some (.builtin "object.__setattr__")))
    (no_BadLayers : PySem.W.findIn K (.ref c_BadLayers) "thing" = some none)
    (ex_BadLayers : PySem.W.subIn K (.ref c_BadLayers) (.type "BaseException") = some true)
    (ty_BadLayers : PySem.W.typeIn K (.ref c_BadLayers) = some (.type "type"))
    (kc_BadLayers : PySem.W.keepIn K (.ref c_BadLayers) = true)
    (ga_BadLayers : PySem.W.findIn K (.ref c_BadLayers) "__getattribute__" = some (some (.builtin "BaseException.__getattribute__")))
    (gg_BadLayers : PySem.W.findIn K (.ref c_BadLayers) "__getattr__" = some none)
    (hd_BadLayers : PySem.W.hasDictIn K c_BadLayers = true)
    (cc_BadLayers : PySem.W.findIn K (.ref c_BadLayers) "__class__" = some (some (.builtin "object.__class__")))
    (mo_BadLayers : PySem.W.mroIn K c_BadLayers (.type "object") = some true)
    (is_BadLayers : PySem.W.kitOne K (.ref c_BadLayers) (.ref c_SheetError) = some true)
    (m_BadLayers_BadAbove : PySem.W.exmOne K (.ref c_BadLayers) (.ref c_BadAbove) = some false)
    (m_BadLayers_BadLayers : PySem.W.exmOne K (.ref c_BadLayers) (.ref c_BadLayers) = some true)
    (m_BadLayers_BadPanels : PySem.W.exmOne K (.ref c_BadLayers) (.ref c_BadPanels) = some false)
    (e_BadPanels : K.lookup c_BadPanels = some (excClassObj nm_BadPanels qn_BadPanels c_BadPanels N_BadPanels bs_BadPanels bm_BadPanels true sn_BadPanels su_BadPanels ab_BadPanels co_BadPanels dd_BadPanels g0_BadPanels g1_BadPanels g2_BadPanels g3_BadPanels g5_BadPanels "Exception.__new__"))
    (w_BadPanels : Dx.ownEx bm_BadPanels = true)
    (in_BadPanels : PySem.W.findIn K (.ref c_BadPanels) "__init__" = some (some (.ref i_BadPanels)))
    (ti_BadPanels : PySem.W.typeIn K (.ref i_BadPanels) = some (.type "function"))
    (l_BadPanels : K.lookup i_BadPanels = some ⟨oc_BadPanels, od_BadPanels, .func (PySem.W.fnOf "__init__" "BadPanels.__init__" (defArgs s_BadPanels) (defBody s_BadPanels) (defScope s_BadPanels) .none kV_BadPanels dc_BadPanels pm_BadPanels an_BadPanels cd_BadPanels ct_BadPanels), sl_BadPanels⟩)
    (q_BadPanels : PySem.W.codeIn K cd_BadPanels "BadPanels.__init__" = true)
    (k_BadPanels : PySem.W.keepIn K (.ref i_BadPanels) = true)
    (sa_BadPanels : PySem.W.findIn K (.ref c_BadPanels) "__setattr__" = some (some (.builtin "object.__setattr__")))
    (no_BadPanels : PySem.W.findIn K (.ref c_BadPanels) "thing" = some none)
    (ex_BadPanels : PySem.W.subIn K (.ref c_BadPanels) (.type "BaseException") = some true)
    (ty_BadPanels : PySem.W.typeIn K (.ref c_BadPanels) = some (.type "type"))
    (kc_BadPanels : PySem.W.keepIn K (.ref c_BadPanels) = true)
    (ga_BadPanels : PySem.W.findIn K (.ref c_BadPanels) "__getattribute__" = some (some (.builtin "BaseException.__getattribute__")))
    (gg_BadPanels : PySem.W.findIn K (.ref c_BadPanels) "__getattr__" = some none)
    (hd_BadPanels : PySem.W.hasDictIn K c_BadPanels = true)
    (cc_BadPanels : PySem.W.findIn K (.ref c_BadPanels) "__class__" = some (some (.builtin "object.__class__")))
    (mo_BadPanels : PySem.W.mroIn K c_BadPanels (.type "object") = some true)
    (is_BadPanels : PySem.W.kitOne K (.ref c_BadPanels) (.ref c_SheetError) = some true)
    (m_BadPanels_BadAbove : PySem.W.exmOne K (.ref c_BadPanels) (.ref c_BadAbove) = some false)
    (m_BadPanels_BadLayers : PySem.W.exmOne K (.ref c_BadPanels) (.ref c_BadLayers) = some false)
    (m_BadPanels_BadPanels : PySem.W.exmOne K (.ref c_BadPanels) (.ref c_BadPanels) = some true)
    (sp_1 : PySem.W.specialIn K (.builtin "object.__class__") "__get__" = some (some (.builtin "getset_descriptor.__get__")))
    (sp_2 : PySem.W.takesIn K (.builtin "object.__class__") = some true)
    (nt__law_are_refused : K.lookup p__law_are_refused = none)
    (nt_law : K.lookup p_law = none) :
    LawD l w K 12 63 "script" mg fa h := by
  obtain rfl : f_law = fa := by
    have e := hfa.symm.trans (PySem.W.mg_of X G a_law)
    injection e with e; injection e with e; exact e.symm
  have TX : Txt K mg (⟨f__law_draw, PySem.W.fnOf "_law_draw" "_law_draw" (defArgs s__law_draw) (defBody s__law_draw) (defScope s__law_draw) .none kV__law_draw dc__law_draw pm__law_draw an__law_draw cd__law_draw ct__law_draw, f__law_pick, PySem.W.fnOf "_law_pick" "_law_pick" (defArgs s__law_pick) (defBody s__law_pick) (defScope s__law_pick) .none kV__law_pick dc__law_pick pm__law_pick an__law_pick cd__law_pick ct__law_pick, f__law_same, PySem.W.fnOf "_law_same" "_law_same" (defArgs s__law_same) (defBody s__law_same) (defScope s__law_same) .none kV__law_same dc__law_same pm__law_same an__law_same cd__law_same ct__law_same, f__law_whole, PySem.W.fnOf "_law_whole" "_law_whole" (defArgs s__law_whole) (defBody s__law_whole) (defScope s__law_whole) .none kV__law_whole dc__law_whole pm__law_whole an__law_whole cd__law_whole ct__law_whole, f__law_is_layers, PySem.W.fnOf "_law_is_layers" "_law_is_layers" (defArgs s__law_is_layers) (defBody s__law_is_layers) (defScope s__law_is_layers) .none kV__law_is_layers dc__law_is_layers pm__law_is_layers an__law_is_layers cd__law_is_layers ct__law_is_layers, f__law_facing, PySem.W.fnOf "_law_facing" "_law_facing" (defArgs s__law_facing) (defBody s__law_facing) (defScope s__law_facing) .none kV__law_facing dc__law_facing pm__law_facing an__law_facing cd__law_facing ct__law_facing, f__law_heard, PySem.W.fnOf "_law_heard" "_law_heard" (defArgs s__law_heard) (defBody s__law_heard) (defScope s__law_heard) .none kV__law_heard dc__law_heard pm__law_heard an__law_heard cd__law_heard ct__law_heard, f_is_whole, PySem.W.fnOf "is_whole" "is_whole" (defArgs s_is_whole) (defBody s_is_whole) (defScope s_is_whole) .none kV_is_whole dc_is_whole pm_is_whole an_is_whole cd_is_whole ct_is_whole, f_is_whole_between, PySem.W.fnOf "is_whole_between" "is_whole_between" (defArgs s_is_whole_between) (defBody s_is_whole_between) (defScope s_is_whole_between) .none kV_is_whole_between dc_is_whole_between pm_is_whole_between an_is_whole_between cd_is_whole_between ct_is_whole_between, f_are_layers, PySem.W.fnOf "are_layers" "are_layers" (defArgs s_are_layers) (defBody s_are_layers) (defScope s_are_layers) .none kV_are_layers dc_are_layers pm_are_layers an_are_layers cd_are_layers ct_are_layers, f_facing, PySem.W.fnOf "facing" "facing" (defArgs s_facing) (defBody s_facing) (defScope s_facing) .none kV_facing dc_facing pm_facing an_facing cd_facing ct_facing, f_do_cross, PySem.W.fnOf "do_cross" "do_cross" (defArgs s_do_cross) (defBody s_do_cross) (defScope s_do_cross) .none kV_do_cross dc_do_cross pm_do_cross an_do_cross cd_do_cross ct_do_cross, f_has_crossing, PySem.W.fnOf "has_crossing" "has_crossing" (defArgs s_has_crossing) (defBody s_has_crossing) (defScope s_has_crossing) .none kV_has_crossing dc_has_crossing pm_has_crossing an_has_crossing cd_has_crossing ct_has_crossing, f_is_fold, PySem.W.fnOf "is_fold" "is_fold" (defArgs s_is_fold) (defBody s_is_fold) (defScope s_is_fold) .none kV_is_fold dc_is_fold pm_is_fold an_is_fold cd_is_fold ct_is_fold, f__law_do_cross, PySem.W.fnOf "_law_do_cross" "_law_do_cross" (defArgs s__law_do_cross) (defBody s__law_do_cross) (defScope s__law_do_cross) .none kV__law_do_cross dc__law_do_cross pm__law_do_cross an__law_do_cross cd__law_do_cross ct__law_do_cross, f__law_is_flat, PySem.W.fnOf "_law_is_flat" "_law_is_flat" (defArgs s__law_is_flat) (defBody s__law_is_flat) (defScope s__law_is_flat) .none kV__law_is_flat dc__law_is_flat pm__law_is_flat an__law_is_flat cd__law_is_flat ct__law_is_flat, f__law_odd, PySem.W.fnOf "_law_odd" "_law_odd" (defArgs s__law_odd) (defBody s__law_odd) (defScope s__law_odd) .none kV__law_odd dc__law_odd pm__law_odd an__law_odd cd__law_odd ct__law_odd, f_rows_of_heights, PySem.W.fnOf "rows_of_heights" "rows_of_heights" (defArgs s_rows_of_heights) (defBody s_rows_of_heights) (defScope s_rows_of_heights) .none kV_rows_of_heights dc_rows_of_heights pm_rows_of_heights an_rows_of_heights cd_rows_of_heights ct_rows_of_heights, f_folds_of, PySem.W.fnOf "folds_of" "folds_of" (defArgs s_folds_of) (defBody s_folds_of) (defScope s_folds_of) .none kV_folds_of dc_folds_of pm_folds_of an_folds_of cd_folds_of ct_folds_of, f_is_tuple_of, PySem.W.fnOf "is_tuple_of" "is_tuple_of" (defArgs s_is_tuple_of) (defBody s_is_tuple_of) (defScope s_is_tuple_of) .none kV_is_tuple_of dc_is_tuple_of pm_is_tuple_of an_is_tuple_of cd_is_tuple_of ct_is_tuple_of, f_is_above, PySem.W.fnOf "is_above" "is_above" (defArgs s_is_above) (defBody s_is_above) (defScope s_is_above) .none kV_is_above dc_is_above pm_is_above an_is_above cd_is_above ct_is_above, f_need_strip, PySem.W.fnOf "need_strip" "need_strip" (defArgs s_need_strip) (defBody s_need_strip) (defScope s_need_strip) .none kV_need_strip dc_need_strip pm_need_strip an_need_strip cd_need_strip ct_need_strip, f_folds, PySem.W.fnOf "folds" "folds" (defArgs s_folds) (defBody s_folds) (defScope s_folds) .none kV_folds dc_folds pm_folds an_folds cd_folds ct_folds, f__law_are_refused, PySem.W.fnOf "_law_are_refused" "_law_are_refused" (defArgs s__law_are_refused) (defBody s__law_are_refused) (defScope s__law_are_refused) .none kV__law_are_refused dc__law_are_refused pm__law_are_refused an__law_are_refused (.ref o__law_are_refused) ct__law_are_refused, f__law_mixed, PySem.W.fnOf "_law_mixed" "_law_mixed" (defArgs s__law_mixed) (defBody s__law_mixed) (defScope s__law_mixed) .none kV__law_mixed dc__law_mixed pm__law_mixed an__law_mixed cd__law_mixed ct__law_mixed, f__law_above, PySem.W.fnOf "_law_above" "_law_above" (defArgs s__law_above) (defBody s__law_above) (defScope s__law_above) .none kV__law_above dc__law_above pm__law_above an__law_above cd__law_above ct__law_above, f__law_orders, PySem.W.fnOf "_law_orders" "_law_orders" (defArgs s__law_orders) (defBody s__law_orders) (defScope s__law_orders) .none kV__law_orders dc__law_orders pm__law_orders an__law_orders cd__law_orders ct__law_orders, f__law_deck, PySem.W.fnOf "_law_deck" "_law_deck" (defArgs s__law_deck) (defBody s__law_deck) (defScope s__law_deck) .none kV__law_deck dc__law_deck pm__law_deck an__law_deck cd__law_deck ct__law_deck, f_law, PySem.W.fnOf "law" "law" (defArgs s_law) (defBody s_law) (defScope s_law) .none kV_law dc_law pm_law an_law (.ref o_law) ct_law, c_BadAbove, i_BadAbove, PySem.W.fnOf "__init__" "BadAbove.__init__" (defArgs s_BadAbove) (defBody s_BadAbove) (defScope s_BadAbove) .none kV_BadAbove dc_BadAbove pm_BadAbove an_BadAbove cd_BadAbove ct_BadAbove, c_BadLayers, i_BadLayers, PySem.W.fnOf "__init__" "BadLayers.__init__" (defArgs s_BadLayers) (defBody s_BadLayers) (defScope s_BadLayers) .none kV_BadLayers dc_BadLayers pm_BadLayers an_BadLayers cd_BadLayers ct_BadLayers, c_BadPanels, i_BadPanels, PySem.W.fnOf "__init__" "BadPanels.__init__" (defArgs s_BadPanels) (defBody s_BadPanels) (defScope s_BadPanels) .none kV_BadPanels dc_BadPanels pm_BadPanels an_BadPanels cd_BadPanels ct_BadPanels, c_SheetError, t_MOST_PANELS, t_MOST_WHOLE, o__law_are_refused, p__law_are_refused, o_law, p_law⟩ : Adr) := {
    n_abs := PySem.W.mg_none_of X G n_abs
    n_all := PySem.W.mg_none_of X G n_all
    n_any := PySem.W.mg_none_of X G n_any
    n_bool := PySem.W.mg_none_of X G n_bool
    n_dict := PySem.W.mg_none_of X G n_dict
    n_int := PySem.W.mg_none_of X G n_int
    n_isinstance := PySem.W.mg_none_of X G n_isinstance
    n_len := PySem.W.mg_none_of X G n_len
    n_list := PySem.W.mg_none_of X G n_list
    n_max := PySem.W.mg_none_of X G n_max
    n_min := PySem.W.mg_none_of X G n_min
    n_range := PySem.W.mg_none_of X G n_range
    n_repr := PySem.W.mg_none_of X G n_repr
    n_sorted := PySem.W.mg_none_of X G n_sorted
    n_str := PySem.W.mg_none_of X G n_str
    n_tuple := PySem.W.mg_none_of X G n_tuple
    n_zip := PySem.W.mg_none_of X G n_zip
    v_MOST_PANELS := PySem.W.mg_of X G v_MOST_PANELS
    v_MOST_WHOLE := PySem.W.mg_of X G v_MOST_WHOLE
    g__law_draw := PySem.W.mg_of X G a__law_draw
    F__law_draw := fun_mk l__law_draw q__law_draw k__law_draw
    g__law_pick := PySem.W.mg_of X G a__law_pick
    F__law_pick := fun_mk l__law_pick q__law_pick k__law_pick
    g__law_same := PySem.W.mg_of X G a__law_same
    F__law_same := fun_mk l__law_same q__law_same k__law_same
    g__law_whole := PySem.W.mg_of X G a__law_whole
    F__law_whole := fun_mk l__law_whole q__law_whole k__law_whole
    g__law_is_layers := PySem.W.mg_of X G a__law_is_layers
    F__law_is_layers := fun_mk l__law_is_layers q__law_is_layers k__law_is_layers
    g__law_facing := PySem.W.mg_of X G a__law_facing
    F__law_facing := fun_mk l__law_facing q__law_facing k__law_facing
    g__law_heard := PySem.W.mg_of X G a__law_heard
    F__law_heard := fun_mk l__law_heard q__law_heard k__law_heard
    g_is_whole := PySem.W.mg_of X G a_is_whole
    F_is_whole := fun_mk l_is_whole q_is_whole k_is_whole
    g_is_whole_between := PySem.W.mg_of X G a_is_whole_between
    F_is_whole_between := fun_mk l_is_whole_between q_is_whole_between k_is_whole_between
    g_are_layers := PySem.W.mg_of X G a_are_layers
    F_are_layers := fun_mk l_are_layers q_are_layers k_are_layers
    g_facing := PySem.W.mg_of X G a_facing
    F_facing := fun_mk l_facing q_facing k_facing
    g_do_cross := PySem.W.mg_of X G a_do_cross
    F_do_cross := fun_mk l_do_cross q_do_cross k_do_cross
    g_has_crossing := PySem.W.mg_of X G a_has_crossing
    F_has_crossing := fun_mk l_has_crossing q_has_crossing k_has_crossing
    g_is_fold := PySem.W.mg_of X G a_is_fold
    F_is_fold := fun_mk l_is_fold q_is_fold k_is_fold
    g__law_do_cross := PySem.W.mg_of X G a__law_do_cross
    F__law_do_cross := fun_mk l__law_do_cross q__law_do_cross k__law_do_cross
    g__law_is_flat := PySem.W.mg_of X G a__law_is_flat
    F__law_is_flat := fun_mk l__law_is_flat q__law_is_flat k__law_is_flat
    g__law_odd := PySem.W.mg_of X G a__law_odd
    F__law_odd := fun_mk l__law_odd q__law_odd k__law_odd
    g_rows_of_heights := PySem.W.mg_of X G a_rows_of_heights
    F_rows_of_heights := fun_mk l_rows_of_heights q_rows_of_heights k_rows_of_heights
    g_folds_of := PySem.W.mg_of X G a_folds_of
    F_folds_of := fun_mk l_folds_of q_folds_of k_folds_of
    g_is_tuple_of := PySem.W.mg_of X G a_is_tuple_of
    F_is_tuple_of := fun_mk l_is_tuple_of q_is_tuple_of k_is_tuple_of
    g_is_above := PySem.W.mg_of X G a_is_above
    F_is_above := fun_mk l_is_above q_is_above k_is_above
    g_need_strip := PySem.W.mg_of X G a_need_strip
    F_need_strip := fun_mk l_need_strip q_need_strip k_need_strip
    g_folds := PySem.W.mg_of X G a_folds
    F_folds := fun_mk l_folds q_folds k_folds
    g__law_are_refused := PySem.W.mg_of X G a__law_are_refused
    F__law_are_refused := fun_mk l__law_are_refused q__law_are_refused k__law_are_refused
    g__law_mixed := PySem.W.mg_of X G a__law_mixed
    F__law_mixed := fun_mk l__law_mixed q__law_mixed k__law_mixed
    g__law_above := PySem.W.mg_of X G a__law_above
    F__law_above := fun_mk l__law_above q__law_above k__law_above
    g__law_orders := PySem.W.mg_of X G a__law_orders
    F__law_orders := fun_mk l__law_orders q__law_orders k__law_orders
    g__law_deck := PySem.W.mg_of X G a__law_deck
    F__law_deck := fun_mk l__law_deck q__law_deck k__law_deck
    g_law := PySem.W.mg_of X G a_law
    F_law := fun_mk l_law q_law k_law
    g_BadAbove := PySem.W.mg_of X G a_BadAbove
    e_BadAbove := ⟨⟨_, _, _, _, _, _, _, _, _, _, _, _, _, _, _, e_BadAbove, w_BadAbove⟩, sa_BadAbove, no_BadAbove, ex_BadAbove, ty_BadAbove, kc_BadAbove⟩
    i_BadAbove := in_BadAbove
    t_BadAbove := ti_BadAbove
    f_BadAbove := fun_mk l_BadAbove q_BadAbove k_BadAbove
    x_BadAbove := ⟨ga_BadAbove, gg_BadAbove, ex_BadAbove, hd_BadAbove⟩
    y_BadAbove := ⟨ga_BadAbove, gg_BadAbove, ex_BadAbove, hd_BadAbove, cc_BadAbove, sp_1, sp_2, mo_BadAbove⟩
    z_BadAbove := is_BadAbove
    m_BadAbove_BadAbove := m_BadAbove_BadAbove
    m_BadAbove_BadLayers := m_BadAbove_BadLayers
    m_BadAbove_BadPanels := m_BadAbove_BadPanels
    g_BadLayers := PySem.W.mg_of X G a_BadLayers
    e_BadLayers := ⟨⟨_, _, _, _, _, _, _, _, _, _, _, _, _, _, _, e_BadLayers, w_BadLayers⟩, sa_BadLayers, no_BadLayers, ex_BadLayers, ty_BadLayers, kc_BadLayers⟩
    i_BadLayers := in_BadLayers
    t_BadLayers := ti_BadLayers
    f_BadLayers := fun_mk l_BadLayers q_BadLayers k_BadLayers
    x_BadLayers := ⟨ga_BadLayers, gg_BadLayers, ex_BadLayers, hd_BadLayers⟩
    y_BadLayers := ⟨ga_BadLayers, gg_BadLayers, ex_BadLayers, hd_BadLayers, cc_BadLayers, sp_1, sp_2, mo_BadLayers⟩
    z_BadLayers := is_BadLayers
    m_BadLayers_BadAbove := m_BadLayers_BadAbove
    m_BadLayers_BadLayers := m_BadLayers_BadLayers
    m_BadLayers_BadPanels := m_BadLayers_BadPanels
    g_BadPanels := PySem.W.mg_of X G a_BadPanels
    e_BadPanels := ⟨⟨_, _, _, _, _, _, _, _, _, _, _, _, _, _, _, e_BadPanels, w_BadPanels⟩, sa_BadPanels, no_BadPanels, ex_BadPanels, ty_BadPanels, kc_BadPanels⟩
    i_BadPanels := in_BadPanels
    t_BadPanels := ti_BadPanels
    f_BadPanels := fun_mk l_BadPanels q_BadPanels k_BadPanels
    x_BadPanels := ⟨ga_BadPanels, gg_BadPanels, ex_BadPanels, hd_BadPanels⟩
    y_BadPanels := ⟨ga_BadPanels, gg_BadPanels, ex_BadPanels, hd_BadPanels, cc_BadPanels, sp_1, sp_2, mo_BadPanels⟩
    z_BadPanels := is_BadPanels
    m_BadPanels_BadAbove := m_BadPanels_BadAbove
    m_BadPanels_BadLayers := m_BadPanels_BadLayers
    m_BadPanels_BadPanels := m_BadPanels_BadPanels
    g_SheetError := PySem.W.mg_of X G a_SheetError
    o__law_are_refused := rfl
    tu__law_are_refused := fun p hp e => by
      simp only [Adr.T, List.mem_cons, List.not_mem_nil, or_false] at hp
      rcases hp with rfl | rfl
      · exact rfl
      · exact absurd e pd_law__law_are_refused
    ti__law_are_refused := by simp [Adr.T]
    o_law := rfl
    tu_law := fun p hp e => by
      simp only [Adr.T, List.mem_cons, List.not_mem_nil, or_false] at hp
      rcases hp with rfl | rfl
      · exact absurd e pd__law_are_refused_law
      · exact rfl
    ti_law := by simp [Adr.T] }
  refine ⟨true, _, [(o__law_are_refused, p__law_are_refused), (o_law, p_law)], _, _, F_law, fun p hp => by
    simp only [List.mem_cons, List.not_mem_nil, or_false] at hp
    rcases hp with rfl | rfl
    · exact tb__law_are_refused
    · exact tb_law, fun p hp => by
    simp only [List.mem_cons, List.not_mem_nil, or_false] at hp
    rcases hp with rfl | rfl
    · exact nt__law_are_refused
    · exact nt_law, fun p hp => by
    simp only [List.mem_cons, List.not_mem_nil, or_false] at hp
    rcases hp with rfl | rfl
    · exact codeHd_of X0 cl__law_are_refused c1__law_are_refused c2__law_are_refused c3__law_are_refused c4__law_are_refused c5__law_are_refused c6__law_are_refused c7__law_are_refused
    · exact codeHd_of X0 cl_law c1_law c2_law c3_law c4_law c5_law c6_law c7_law, ?_, fun s u => .of_eq rfl, law_true, fun base _ _ TB => ok_law rfl TX ⟨trivial, TB (o__law_are_refused, p__law_are_refused) (by simp), TB (o_law, p_law) (by simp)⟩⟩
  intro p hp
  simp only [Adr.T, List.mem_cons, List.not_mem_nil, or_false] at hp
  rcases hp with rfl | rfl
  · exact ⟨(o__law_are_refused, p__law_are_refused), by simp, rfl⟩
  · exact ⟨(o_law, p_law), by simp, rfl⟩
end
end K39
open PySem PySem.W PyProof.Rows
set_option maxHeartbeats 0 in
theorem PySem.Challenge.cw_everysheet_k39_folds_of_one_to_six_panel_holds : PySem.Challenge.rw_everysheet_k39_folds_of_one_to_six_panel.Holds := by
  w_on; o_law; k_head; (case hw => w_witness2)
  k_fill
  refine De.walkDE (l := PySem.Challenge.rw_everysheet_k39_folds_of_one_to_six_panel) (n := 63) (k := 12) (x := "script") rfl (by decide) rfl ⟨rfl, by decide, by decide⟩ ?F
  case F =>
    intro w mg fa h Y G hmg
    have X0 := PySem.W.km_in_of Y
    have T0 := PySem.W.km_tabs_of Y
    refine' ⟨_, X0, K39.all_mk rfl X0 X0 G hmg ?aa__law_are_refused ?ll__law_are_refused ?cl__law_are_refused ?c1__law_are_refused ?c2__law_are_refused ?c3__law_are_refused ?c4__law_are_refused ?c5__law_are_refused ?c6__law_are_refused ?c7__law_are_refused ?tb__law_are_refused ?aa_law ?ll_law ?cl_law ?c1_law ?c2_law ?c3_law ?c4_law ?c5_law ?c6_law ?c7_law ?tb_law ?pd__law_are_refused_law ?pd_law__law_are_refused ?a__law_draw ?l__law_draw ?q__law_draw ?k__law_draw ?a__law_pick ?l__law_pick ?q__law_pick ?k__law_pick ?a__law_same ?l__law_same ?q__law_same ?k__law_same ?a__law_whole ?l__law_whole ?q__law_whole ?k__law_whole ?a__law_is_layers ?l__law_is_layers ?q__law_is_layers ?k__law_is_layers ?a__law_facing ?l__law_facing ?q__law_facing ?k__law_facing ?a__law_heard ?l__law_heard ?q__law_heard ?k__law_heard ?a_is_whole ?l_is_whole ?q_is_whole ?k_is_whole ?a_is_whole_between ?l_is_whole_between ?q_is_whole_between ?k_is_whole_between ?a_are_layers ?l_are_layers ?q_are_layers ?k_are_layers ?a_facing ?l_facing ?q_facing ?k_facing ?a_do_cross ?l_do_cross ?q_do_cross ?k_do_cross ?a_has_crossing ?l_has_crossing ?q_has_crossing ?k_has_crossing ?a_is_fold ?l_is_fold ?q_is_fold ?k_is_fold ?a__law_do_cross ?l__law_do_cross ?q__law_do_cross ?k__law_do_cross ?a__law_is_flat ?l__law_is_flat ?q__law_is_flat ?k__law_is_flat ?a__law_odd ?l__law_odd ?q__law_odd ?k__law_odd ?a_rows_of_heights ?l_rows_of_heights ?q_rows_of_heights ?k_rows_of_heights ?a_folds_of ?l_folds_of ?q_folds_of ?k_folds_of ?a_is_tuple_of ?l_is_tuple_of ?q_is_tuple_of ?k_is_tuple_of ?a_is_above ?l_is_above ?q_is_above ?k_is_above ?a_need_strip ?l_need_strip ?q_need_strip ?k_need_strip ?a_folds ?l_folds ?q_folds ?k_folds ?a__law_are_refused ?l__law_are_refused ?q__law_are_refused ?k__law_are_refused ?a__law_mixed ?l__law_mixed ?q__law_mixed ?k__law_mixed ?a__law_above ?l__law_above ?q__law_above ?k__law_above ?a__law_orders ?l__law_orders ?q__law_orders ?k__law_orders ?a__law_deck ?l__law_deck ?q__law_deck ?k__law_deck ?a_law ?l_law ?q_law ?k_law ?n_abs ?n_all ?n_any ?n_bool ?n_dict ?n_int ?n_isinstance ?n_len ?n_list ?n_max ?n_min ?n_range ?n_repr ?n_sorted ?n_str ?n_tuple ?n_zip ?v_MOST_PANELS ?v_MOST_WHOLE ?a_SheetError ?a_BadAbove ?a_BadLayers ?a_BadPanels ?e_BadAbove ?w_BadAbove ?in_BadAbove ?ti_BadAbove ?l_BadAbove ?q_BadAbove ?k_BadAbove ?sa_BadAbove ?no_BadAbove ?ex_BadAbove ?ty_BadAbove ?kc_BadAbove ?ga_BadAbove ?gg_BadAbove ?hd_BadAbove ?cc_BadAbove ?mo_BadAbove ?is_BadAbove ?m_BadAbove_BadAbove ?m_BadAbove_BadLayers ?m_BadAbove_BadPanels ?e_BadLayers ?w_BadLayers ?in_BadLayers ?ti_BadLayers ?l_BadLayers ?q_BadLayers ?k_BadLayers ?sa_BadLayers ?no_BadLayers ?ex_BadLayers ?ty_BadLayers ?kc_BadLayers ?ga_BadLayers ?gg_BadLayers ?hd_BadLayers ?cc_BadLayers ?mo_BadLayers ?is_BadLayers ?m_BadLayers_BadAbove ?m_BadLayers_BadLayers ?m_BadLayers_BadPanels ?e_BadPanels ?w_BadPanels ?in_BadPanels ?ti_BadPanels ?l_BadPanels ?q_BadPanels ?k_BadPanels ?sa_BadPanels ?no_BadPanels ?ex_BadPanels ?ty_BadPanels ?kc_BadPanels ?ga_BadPanels ?gg_BadPanels ?hd_BadPanels ?cc_BadPanels ?mo_BadPanels ?is_BadPanels ?m_BadPanels_BadAbove ?m_BadPanels_BadLayers ?m_BadPanels_BadPanels ?sp_1 ?sp_2 ?nt__law_are_refused ?nt_law⟩
    (case aa__law_are_refused => k_is); (case ll__law_are_refused => k_is); (case cl__law_are_refused => k_is); (case c1__law_are_refused => exact rfl); (case c2__law_are_refused => exact rfl); (case c3__law_are_refused => exact rfl); (case c4__law_are_refused => exact rfl); (case c5__law_are_refused => exact rfl); (case c6__law_are_refused => exact rfl); (case c7__law_are_refused => decide); (case tb__law_are_refused => exact T0 _ (by simp)); (case aa_law => k_is); (case ll_law => k_is); (case cl_law => k_is); (case c1_law => exact rfl); (case c2_law => exact rfl); (case c3_law => exact rfl); (case c4_law => exact rfl); (case c5_law => exact rfl); (case c6_law => exact rfl); (case c7_law => decide); (case tb_law => exact T0 _ (by simp)); (case pd__law_are_refused_law => decide); (case pd_law__law_are_refused => decide); (case a__law_draw => k_is); (case l__law_draw => k_is); (case q__law_draw => k_is); (case k__law_draw => k_is); (case a__law_pick => k_is); (case l__law_pick => k_is); (case q__law_pick => k_is); (case k__law_pick => k_is); (case a__law_same => k_is); (case l__law_same => k_is); (case q__law_same => k_is); (case k__law_same => k_is); (case a__law_whole => k_is); (case l__law_whole => k_is); (case q__law_whole => k_is); (case k__law_whole => k_is); (case a__law_is_layers => k_is); (case l__law_is_layers => k_is); (case q__law_is_layers => k_is); (case k__law_is_layers => k_is); (case a__law_facing => k_is); (case l__law_facing => k_is); (case q__law_facing => k_is); (case k__law_facing => k_is); (case a__law_heard => k_is); (case l__law_heard => k_is); (case q__law_heard => k_is); (case k__law_heard => k_is); (case a_is_whole => k_is); (case l_is_whole => k_is); (case q_is_whole => k_is); (case k_is_whole => k_is); (case a_is_whole_between => k_is); (case l_is_whole_between => k_is); (case q_is_whole_between => k_is); (case k_is_whole_between => k_is); (case a_are_layers => k_is); (case l_are_layers => k_is); (case q_are_layers => k_is); (case k_are_layers => k_is); (case a_facing => k_is); (case l_facing => k_is); (case q_facing => k_is); (case k_facing => k_is); (case a_do_cross => k_is); (case l_do_cross => k_is); (case q_do_cross => k_is); (case k_do_cross => k_is); (case a_has_crossing => k_is); (case l_has_crossing => k_is); (case q_has_crossing => k_is); (case k_has_crossing => k_is); (case a_is_fold => k_is); (case l_is_fold => k_is); (case q_is_fold => k_is); (case k_is_fold => k_is); (case a__law_do_cross => k_is); (case l__law_do_cross => k_is); (case q__law_do_cross => k_is); (case k__law_do_cross => k_is); (case a__law_is_flat => k_is); (case l__law_is_flat => k_is); (case q__law_is_flat => k_is); (case k__law_is_flat => k_is); (case a__law_odd => k_is); (case l__law_odd => k_is); (case q__law_odd => k_is); (case k__law_odd => k_is); (case a_rows_of_heights => k_is); (case l_rows_of_heights => k_is); (case q_rows_of_heights => k_is); (case k_rows_of_heights => k_is); (case a_folds_of => k_is); (case l_folds_of => k_is); (case q_folds_of => k_is); (case k_folds_of => k_is); (case a_is_tuple_of => k_is); (case l_is_tuple_of => k_is); (case q_is_tuple_of => k_is); (case k_is_tuple_of => k_is); (case a_is_above => k_is); (case l_is_above => k_is); (case q_is_above => k_is); (case k_is_above => k_is); (case a_need_strip => k_is); (case l_need_strip => k_is); (case q_need_strip => k_is); (case k_need_strip => k_is); (case a_folds => k_is); (case l_folds => k_is); (case q_folds => k_is); (case k_folds => k_is); (case a__law_are_refused => k_is); (case l__law_are_refused => k_is); (case q__law_are_refused => k_is); (case k__law_are_refused => k_is); (case a__law_mixed => k_is); (case l__law_mixed => k_is); (case q__law_mixed => k_is); (case k__law_mixed => k_is); (case a__law_above => k_is); (case l__law_above => k_is); (case q__law_above => k_is); (case k__law_above => k_is); (case a__law_orders => k_is); (case l__law_orders => k_is); (case q__law_orders => k_is); (case k__law_orders => k_is); (case a__law_deck => k_is); (case l__law_deck => k_is); (case q__law_deck => k_is); (case k__law_deck => k_is); (case a_law => k_is); (case l_law => k_is); (case q_law => k_is); (case k_law => k_is); (case n_abs => k_is); (case n_all => k_is); (case n_any => k_is); (case n_bool => k_is); (case n_dict => k_is); (case n_int => k_is); (case n_isinstance => k_is); (case n_len => k_is); (case n_list => k_is); (case n_max => k_is); (case n_min => k_is); (case n_range => k_is); (case n_repr => k_is); (case n_sorted => k_is); (case n_str => k_is); (case n_tuple => k_is); (case n_zip => k_is); (case v_MOST_PANELS => k_is); (case v_MOST_WHOLE => k_is); (case a_SheetError => k_is); (case a_BadAbove => k_is); (case a_BadLayers => k_is); (case a_BadPanels => k_is); (case e_BadAbove => k_is); (case w_BadAbove => kernel_rfl); (case in_BadAbove => k_is); (case ti_BadAbove => k_is); (case l_BadAbove => k_is); (case q_BadAbove => k_is); (case k_BadAbove => k_is); (case sa_BadAbove => k_is); (case no_BadAbove => k_is); (case ex_BadAbove => k_is); (case ty_BadAbove => k_is); (case kc_BadAbove => k_is); (case ga_BadAbove => k_is); (case gg_BadAbove => k_is); (case hd_BadAbove => k_is); (case cc_BadAbove => k_is); (case mo_BadAbove => k_is); (case is_BadAbove => kernel_rfl); (case m_BadAbove_BadAbove => kernel_rfl); (case m_BadAbove_BadLayers => kernel_rfl); (case m_BadAbove_BadPanels => kernel_rfl); (case e_BadLayers => k_is); (case w_BadLayers => kernel_rfl); (case in_BadLayers => k_is); (case ti_BadLayers => k_is); (case l_BadLayers => k_is); (case q_BadLayers => k_is); (case k_BadLayers => k_is); (case sa_BadLayers => k_is); (case no_BadLayers => k_is); (case ex_BadLayers => k_is); (case ty_BadLayers => k_is); (case kc_BadLayers => k_is); (case ga_BadLayers => k_is); (case gg_BadLayers => k_is); (case hd_BadLayers => k_is); (case cc_BadLayers => k_is); (case mo_BadLayers => k_is); (case is_BadLayers => kernel_rfl); (case m_BadLayers_BadAbove => kernel_rfl); (case m_BadLayers_BadLayers => kernel_rfl); (case m_BadLayers_BadPanels => kernel_rfl); (case e_BadPanels => k_is); (case w_BadPanels => kernel_rfl); (case in_BadPanels => k_is); (case ti_BadPanels => k_is); (case l_BadPanels => k_is); (case q_BadPanels => k_is); (case k_BadPanels => k_is); (case sa_BadPanels => k_is); (case no_BadPanels => k_is); (case ex_BadPanels => k_is); (case ty_BadPanels => k_is); (case kc_BadPanels => k_is); (case ga_BadPanels => k_is); (case gg_BadPanels => k_is); (case hd_BadPanels => k_is); (case cc_BadPanels => k_is); (case mo_BadPanels => k_is); (case is_BadPanels => kernel_rfl); (case m_BadPanels_BadAbove => kernel_rfl); (case m_BadPanels_BadLayers => kernel_rfl); (case m_BadPanels_BadPanels => kernel_rfl); (case sp_1 => k_is); (case sp_2 => k_is); (case nt__law_are_refused => kernel_rfl); (case nt_law => kernel_rfl)
