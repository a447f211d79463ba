import PyProof.Rows.All
import Wide.All
import OpenK.AllK
import Wide.FinOn
import HandS.ForMost
import HandS.ForExc
import HandS.Wide
import HandS.TupAny
import HandS.TupMul
import HandS.Style
import HandS.NoneIn
import HandS.Star
import HandS.IsInst
import HandS.FStr
import HandS.SortInts
import HandS.Small
import HandS.SlotsOwn
import KE.KCallOwn
import PyProof.ListStr
import HandS.SetFor
import PyProof.Rows.SortShellAny
import HandS.EndBits
import Wide.Loose
import PySem.Challenge.RW_sidebytokens_k01_patterns_written
set_option Elab.async false
set_option linter.all false
set_option maxRecDepth 100000
set_option maxHeartbeats 1000000
/-! Ab: values D and a store of cells, over the hand layer. -/
namespace Ab
open PySem L2

inductive D where
  | non | bl (b : Bool) | int (i : Int) | str (l : List Nat) | tup (ds : List D) | lst (ds : List D) | dic (ks : List Key) (vs : List D) | ref (k : Nat) | ro (ns : List Int)

inductive O where
  | lst (ds : List D) | dic (ks : List Key) (vs : List D) | ins (c : Nat) (ds : List D) | dead

abbrev Sto := List O

/-- the text's fixed things: the written part, the classes' addresses, the names of their fields in order -/
structure Par where
  K : PySem.W.Frag
  ca : Nat → Addr
  cn : Nat → List Str

/-- where the cells stand, what is frozen -/
structure Wd where
  φ : List Addr
  F : Addr → Prop

def mkS (l : List Nat) : Str := ⟨l.toArray⟩

/-- a list that stands for ever -/
def FzL (st : Wd) (H : Hp) (a : Addr) (vs : List V) : Prop := st.F a ∧ H a = some (.lst vs)

/-- the script's list: tracked and frozen, or part of what is written -/
def RoL (p : Par) (st : Wd) (H : Hp) (a : Addr) (ns : List Int) : Prop := (st.F a ∧ Rd H a (.lst (ns.map V.int))) ∨
  ∃ (o : Obj) (its : Array Value) (n : Nat), p.K.lookup a = some o ∧ o.cls = .type "list" ∧ o.dict = none ∧ o.data = .seq its n ∧ its.size ≤ sizeLine ∧ Vals (ns.map V.int) its.toList
theorem RoL.sq {p : Par} {st : Wd} {H : Hp} {a : Addr} {ns : List Int} (h : RoL p st H a ns) : SqL p.K H a (ns.map V.int) := h.elim (fun h => .inl h.2) .inr
mutual
def RD (p : Par) (st : Wd) (H : Hp) : D → V → Prop
  | .non, v => v = .non
  | .bl b, v => v = .bl b
  | .int i, v => v = .int i
  | .str l, v => v = .str (mkS l) ∧ l.length ≤ sizeLine
  | .tup ds, v => ∃ a vs, v = .ref a ∧ SqT p.K H a vs ∧ RDs p st H ds vs
  | .lst ds, v => ∃ a vs, v = .ref a ∧ FzL st H a vs ∧ RDs p st H ds vs
  | .dic ks ds, v => ∃ a vs, v = .ref a ∧ (st.F a ∧ H a = some (.dK (ks.zip vs))) ∧ ks.length = vs.length ∧ RDs p st H ds vs
  | .ref k, v => ∃ a, v = .ref a ∧ st.φ[k]? = some a
  | .ro ns, v => ∃ a, v = .ref a ∧ RoL p st H a ns
def RDs (p : Par) (st : Wd) (H : Hp) : List D → List V → Prop
  | [], vs => vs = []
  | d :: ds, vs => ∃ v r, vs = v :: r ∧ RD p st H d v ∧ RDs p st H ds r
end

def RO (p : Par) (st : Wd) (H : Hp) : O → HO → Prop
  | .lst ds, ho => ∃ vs, ho = .lst vs ∧ RDs p st H ds vs
  | .dic ks ds, ho => ∃ vs, ho = .dK (ks.zip vs) ∧ ks.length = vs.length ∧ RDs p st H ds vs
  | .ins c ds, ho => ∃ dx vs, ho = .ins (p.ca c) dx ((p.cn c).zip vs) ∧ RDs p st H ds vs ∧ vs.length ≤ (p.cn c).length
  | .dead, _ => True

structure Sim (p : Par) (st : Wd) (μ : Sto) (H : Hp) : Prop where
  len : st.φ.length = μ.length
  inj : st.φ.Nodup
  cel : ∀ (k : Nat) a o, st.φ[k]? = some a → μ[k]? = some o → ∃ ho, H a = some ho ∧ RO p st H o ho
  fz : ∀ a, st.F a → (∃ ho, H a = some ho) ∧ ∀ k : Nat, st.φ[k]? = some a → μ[k]? = some .dead

structure Ext (p : Par) (st : Wd) (H : Hp) (st' : Wd) (H' : Hp) : Prop where
  φ : st.φ <+: st'.φ
  F : ∀ a, st.F a → st'.F a
  fz : ∀ a, st.F a → H' a = H a
  tp : ∀ a xs, SqT p.K H a xs → SqT p.K H' a xs
  xd : ∀ a fs, H a = some (.xd fs) → H' a = some (.xd fs)
  kp : ∀ a, a ∉ st.φ → H a ≠ none → H' a = H a
  nw : ∀ a, a ∈ st'.φ → a ∈ st.φ ∨ H a = none
  nF : ∀ a, st'.F a → st.F a ∨ a ∈ st.φ ∨ H a = none
/-- what the relations need -/
structure ExtR (p : Par) (st : Wd) (H : Hp) (st' : Wd) (H' : Hp) : Prop where
  φ : st.φ <+: st'.φ
  F : ∀ a, st.F a → st'.F a
  fz : ∀ a, st.F a → H' a = H a
  tp : ∀ a xs, SqT p.K H a xs → SqT p.K H' a xs
theorem Ext.toR {p : Par} {st st' : Wd} {H H' : Hp} (e : Ext p st H st' H') : ExtR p st H st' H' := ⟨e.φ, e.F, e.fz, e.tp⟩

section
variable {p : Par} {st st' st1 : Wd} {H H' H1 : Hp} {μ μ' : Sto}
theorem Ext.refl : Ext p st H st H := ⟨List.prefix_rfl, fun _ h => h, fun _ _ => rfl, fun _ _ h => h, fun _ _ h => h, fun _ _ _ => rfl, fun _ h => .inl h, fun _ h => .inl h⟩
theorem Ext.trans (a : Ext p st H st1 H1) (b : Ext p st1 H1 st' H') : Ext p st H st' H' :=
  ⟨a.φ.trans b.φ, fun x h => b.F x (a.F x h), fun x h => (b.fz x (a.F x h)).trans (a.fz x h), fun x xs h => b.tp x xs (a.tp x xs h), fun x xs h => b.xd x xs (a.xd x xs h), fun x h1 h2 => by
      have h3 : x ∉ st1.φ := fun h => (a.nw x h).elim h1 h2
      have h4 := a.kp x h1 h2
      rw [b.kp x h3 (by rw [h4]; exact h2), h4], fun x h => by
      by_cases h0 : x ∈ st.φ
      · exact .inl h0
      · by_cases h5 : H x = none
        · exact .inr h5
        · rcases b.nw x h with h1 | h1
          · exact a.nw x h1
          · rw [a.kp x h0 h5] at h1; exact .inr h1, fun x h => by
      by_cases h0 : x ∈ st.φ
      · exact .inr (.inl h0)
      · by_cases h5 : H x = none
        · exact .inr (.inr h5)
        · rcases b.nF x h with h1 | h1 | h1
          · exact a.nF x h1
          · exact .inr (a.nw x h1)
          · rw [a.kp x h0 h5] at h1; exact .inr (.inr h1)⟩
theorem ExtR.get {k : Nat} {a : Addr} (e : ExtR p st H st' H') (h : st.φ[k]? = some a) : st'.φ[k]? = some a := by
  obtain ⟨t, ht⟩ := e.φ
  rw [← ht, List.getElem?_append_left]
  · exact h
  · exact (List.getElem?_eq_some_iff.mp h).1
theorem ExtR.rd {a : Addr} {u : HO} (e : ExtR p st H st' H') (hF : st.F a) (h : Rd H a u) : Rd H' a u := by
  unfold Rd at h ⊢
  rw [e.fz a hF]; exact h
theorem ExtR.fzl {a : Addr} {vs : List V} (e : ExtR p st H st' H') (h : FzL st H a vs) : FzL st' H' a vs := ⟨e.F a h.1, (e.fz a h.1).trans h.2⟩

mutual
theorem RD.monoR (e : ExtR p st H st' H') : ∀ {d : D} {v : V}, RD p st H d v → RD p st' H' d v
  | .non, _, h => by simp only [RD] at h ⊢; exact h
  | .bl _, _, h => by simp only [RD] at h ⊢; exact h
  | .int _, _, h => by simp only [RD] at h ⊢; exact h
  | .str _, _, h => by simp only [RD] at h ⊢; exact h
  | .tup ds, _, h => by
    simp only [RD] at h ⊢
    obtain ⟨a, vs, e1, h1, h2⟩ := h
    exact ⟨a, vs, e1, e.tp a vs h1, RDs.monoR e h2⟩
  | .lst ds, _, h => by
    simp only [RD] at h ⊢
    obtain ⟨a, vs, e1, h1, h2⟩ := h
    exact ⟨a, vs, e1, e.fzl h1, RDs.monoR e h2⟩
  | .dic ks ds, _, h => by
    simp only [RD] at h ⊢
    obtain ⟨a, vs, e1, ⟨f, h1⟩, h3, h2⟩ := h
    exact ⟨a, vs, e1, ⟨e.F a f, (e.fz a f).trans h1⟩, h3, RDs.monoR e h2⟩
  | .ref k, _, h => by
    simp only [RD] at h ⊢
    obtain ⟨a, e1, h1⟩ := h
    exact ⟨a, e1, e.get h1⟩
  | .ro ns, _, h => by
    simp only [RD] at h ⊢
    obtain ⟨a, e1, h1⟩ := h
    exact ⟨a, e1, h1.elim (fun h => .inl ⟨e.F a h.1, e.rd h.1 h.2⟩) .inr⟩
theorem RDs.monoR (e : ExtR p st H st' H') : ∀ {ds : List D} {vs : List V}, RDs p st H ds vs → RDs p st' H' ds vs
  | [], _, h => by simp only [RDs] at h ⊢; exact h
  | d :: ds, _, h => by
    simp only [RDs] at h ⊢
    obtain ⟨v, r, e1, h1, h2⟩ := h
    exact ⟨v, r, e1, RD.monoR e h1, RDs.monoR e h2⟩
end
theorem RO.monoR (e : ExtR p st H st' H') {o : O} {ho : HO} (h : RO p st H o ho) : RO p st' H' o ho := by
  cases o with
  | lst ds => obtain ⟨vs, e1, h1⟩ := h; exact ⟨vs, e1, h1.monoR e⟩
  | dic ks ds => obtain ⟨vs, e1, h0, h1⟩ := h; exact ⟨vs, e1, h0, h1.monoR e⟩
  | ins c ds => obtain ⟨dx, vs, e1, h1, h2⟩ := h; exact ⟨dx, vs, e1, h1.monoR e, h2⟩
  | dead => trivial

theorem Ext.get {k : Nat} {a : Addr} (e : Ext p st H st' H') (h : st.φ[k]? = some a) : st'.φ[k]? = some a := e.toR.get h
theorem Ext.rd {a : Addr} {u : HO} (e : Ext p st H st' H') (hF : st.F a) (h : Rd H a u) : Rd H' a u := e.toR.rd hF h
theorem RD.mono (e : Ext p st H st' H') {d : D} {v : V} (h : RD p st H d v) : RD p st' H' d v := h.monoR e.toR
theorem RDs.mono (e : Ext p st H st' H') {d : List D} {v : List V} (h : RDs p st H d v) : RDs p st' H' d v := h.monoR e.toR
theorem RO.mono (e : Ext p st H st' H') {o : O} {ho : HO} (h : RO p st H o ho) : RO p st' H' o ho := h.monoR e.toR
theorem RDs.length : ∀ {ds : List D} {vs : List V}, RDs p st H ds vs → ds.length = vs.length
  | [], _, h => by simp only [RDs] at h; subst h; rfl
  | d :: ds, _, h => by
    simp only [RDs] at h
    obtain ⟨v, r, e1, h1, h2⟩ := h
    subst e1
    simp [RDs.length h2]
theorem RDs.get : ∀ {ds : List D} {vs : List V} {i : Nat} {d : D}, RDs p st H ds vs → ds[i]? = some d → ∃ v, vs[i]? = some v ∧ RD p st H d v
  | [], _, _, _, _, e => by simp at e
  | d :: ds, _, 0, d', h, e => by
    simp only [RDs] at h
    obtain ⟨v, r, e1, h1, h2⟩ := h
    subst e1
    simp at e; subst e
    exact ⟨v, rfl, h1⟩
  | d :: ds, _, i + 1, d', h, e => by
    simp only [RDs] at h
    obtain ⟨v, r, e1, h1, h2⟩ := h
    subst e1
    obtain ⟨w, hw, hr⟩ := RDs.get (i := i) h2 (by simpa using e)
    exact ⟨w, by simpa using hw, hr⟩
theorem RDs.append : ∀ {ds es : List D} {vs ws : List V}, RDs p st H ds vs → RDs p st H es ws → RDs p st H (ds ++ es) (vs ++ ws)
  | [], es, vs, ws, h, g => by simp only [RDs] at h; subst h; simpa using g
  | d :: ds, es, vs, ws, h, g => by
    simp only [RDs] at h
    obtain ⟨v, r, e1, h1, h2⟩ := h
    subst e1
    show RDs p st H (d :: (ds ++ es)) (v :: (r ++ ws))
    simp only [RDs]
    exact ⟨v, r ++ ws, rfl, h1, RDs.append h2 g⟩
theorem RDs.one {d : D} {v : V} (h : RD p st H d v) : RDs p st H [d] [v] := by simp only [RDs]; exact ⟨v, [], rfl, h, rfl⟩
theorem RDs.nil : RDs p st H [] [] := by simp only [RDs]
theorem RDs.cons {d : D} {v : V} {ds : List D} {vs : List V} (h : RD p st H d v) (g : RDs p st H ds vs) : RDs p st H (d :: ds) (v :: vs) := by simp only [RDs]; exact ⟨v, vs, rfl, h, g⟩
theorem RDs.of_cons {d : D} {ds : List D} {vs : List V} (h : RDs p st H (d :: ds) vs) : ∃ v r, vs = v :: r ∧ RD p st H d v ∧ RDs p st H ds r := by simpa only [RDs] using h
theorem RDs.take : ∀ (n : Nat) {ds : List D} {vs : List V}, RDs p st H ds vs → RDs p st H (ds.take n) (vs.take n)
  | 0, _, _, _ => by simpa using RDs.nil
  | n + 1, [], _, h => by simp only [RDs] at h; subst h; simpa using RDs.nil
  | n + 1, d :: ds, _, h => by
    obtain ⟨v, r, e1, h1, h2⟩ := h.of_cons
    subst e1
    simpa using RDs.cons h1 (RDs.take n h2)
theorem RDs.drop : ∀ (n : Nat) {ds : List D} {vs : List V}, RDs p st H ds vs → RDs p st H (ds.drop n) (vs.drop n)
  | 0, _, _, h => by simpa using h
  | n + 1, [], _, h => by simp only [RDs] at h; subst h; simpa using RDs.nil
  | n + 1, d :: ds, _, h => by
    obtain ⟨v, r, e1, h1, h2⟩ := h.of_cons
    subst e1
    simpa using RDs.drop n h2
theorem RDs.set : ∀ {ds : List D} {vs : List V} (i : Nat) {d : D} {v : V}, RDs p st H ds vs → RD p st H d v → RDs p st H (ds.set i d) (vs.set i v)
  | [], _, _, _, _, h, _ => by simp only [RDs] at h; subst h; simpa using RDs.nil
  | d :: ds, _, 0, _, _, h, g => by
    obtain ⟨v, r, e1, h1, h2⟩ := h.of_cons
    subst e1
    simpa using RDs.cons g h2
  | d :: ds, _, i + 1, _, _, h, g => by
    obtain ⟨v, r, e1, h1, h2⟩ := h.of_cons
    subst e1
    simpa using RDs.cons h1 (RDs.set i h2 g)
theorem RDs.eraseIdx : ∀ {ds : List D} {vs : List V} (i : Nat), RDs p st H ds vs → RDs p st H (ds.eraseIdx i) (vs.eraseIdx i)
  | [], _, _, h => by simp only [RDs] at h; subst h; simpa using RDs.nil
  | d :: ds, _, 0, h => by
    obtain ⟨v, r, e1, h1, h2⟩ := h.of_cons
    subst e1
    simpa using h2
  | d :: ds, _, i + 1, h => by
    obtain ⟨v, r, e1, h1, h2⟩ := h.of_cons
    subst e1
    simpa using RDs.cons h1 (RDs.eraseIdx i h2)
theorem RDs.replicate : ∀ (n : Nat) {ds : List D} {vs : List V}, RDs p st H ds vs → RDs p st H (List.replicate n ds).flatten (List.replicate n vs).flatten
  | 0, _, _, _ => by simpa using RDs.nil
  | n + 1, _, _, h => by simpa [List.replicate_succ] using RDs.append h (RDs.replicate n h)
end

/-! ### new objects, writes -/
section
variable {p : Par} {st : Wd} {H : Hp} {μ : Sto} {a : Addr} {ho : HO}
theorem sqT_upd {K : PySem.W.Frag} {b : Addr} {xs : List V} (hn : H a = none) (h : SqT K H b xs) : SqT K (upd H a ho) b xs := by
  rcases h with (h | ⟨o, h⟩) | h
  · exact .inl (.inl (by rw [upd_ne (ne_of_none h hn)]; exact h))
  · exact .inl (.inr ⟨o, by rw [upd_ne (ne_of_none h hn)]; exact h⟩)
  · exact .inr h
/-- any new object -/
theorem Ext.new (S : Sim p st μ H) (hn : H a = none) : Ext p st H st (upd H a ho) :=
  ⟨List.prefix_rfl, fun _ h => h, fun b h => by
    obtain ⟨⟨x, hx⟩, _⟩ := S.fz b h
    rw [upd_ne (ne_of_none hx hn)], fun b xs h => sqT_upd hn h, fun b fs h => by rw [upd_ne (ne_of_none h hn)]; exact h,
    fun b _ h => upd_ne fun e => h (by rw [e]; exact hn), fun _ h => .inl h, fun _ h => .inl h⟩
theorem Sim.new (S : Sim p st μ H) (hn : H a = none) : Sim p st μ (upd H a ho) := by
  refine ⟨S.len, S.inj, fun k b o h1 h2 => ?_, fun b h => ?_⟩
  · obtain ⟨x, hx, r⟩ := S.cel k b o h1 h2
    exact ⟨x, by rw [upd_ne (ne_of_none hx hn)]; exact hx, r.mono (Ext.new S hn)⟩
  · obtain ⟨⟨x, hx⟩, h2⟩ := S.fz b h
    exact ⟨⟨x, by rw [upd_ne (ne_of_none hx hn)]; exact hx⟩, h2⟩
/-- a new object as a cell -/
def Wd.add (st : Wd) (a : Addr) : Wd := ⟨st.φ ++ [a], st.F⟩
theorem Ext.cell (S : Sim p st μ H) (hn : H a = none) : Ext p st H (st.add a) (upd H a ho) := by
  have e := Ext.new (ho := ho) S hn
  exact ⟨List.prefix_append _ _, e.F, e.fz, e.tp, e.xd, e.kp, fun b h => by
    have h' : b ∈ st.φ ++ [a] := h
    rcases List.mem_append.mp h' with h' | h'
    · exact .inl h'
    · simp at h'; subst h'; exact .inr hn, fun b h => .inl h⟩
theorem Sim.notin (S : Sim p st μ H) (hn : H a = none) : a ∉ st.φ := fun h => by
  obtain ⟨k, hk, e⟩ := List.mem_iff_getElem.mp h
  have hk2 : k < μ.length := by rw [← S.len]; exact hk
  obtain ⟨x, hx, _⟩ := S.cel k a μ[k] (by rw [List.getElem?_eq_getElem hk, e]) (List.getElem?_eq_getElem hk2)
  rw [hn] at hx; cases hx
theorem Sim.cell {o : O} (S : Sim p st μ H) (hn : H a = none) (r : RO p (st.add a) (upd H a ho) o ho) : Sim p (st.add a) (μ ++ [o]) (upd H a ho) := by
  have na := S.notin hn
  refine ⟨by simp [Wd.add, S.len], ?_, fun k b o' h1 h2 => ?_, fun b h => ?_⟩
  · show (st.φ ++ [a]).Nodup
    rw [List.nodup_append]
    refine ⟨S.inj, by simp, fun x hx y hy => ?_⟩
    simp at hy; subst hy
    exact fun e => na (e ▸ hx)
  · have h1' : (st.φ ++ [a])[k]? = some b := h1
    by_cases hk : k < st.φ.length
    · rw [List.getElem?_append_left hk] at h1'
      rw [List.getElem?_append_left (by rw [← S.len]; exact hk)] at h2
      obtain ⟨x, hx, r⟩ := S.cel k b o' h1' h2
      exact ⟨x, by rw [upd_ne (ne_of_none hx hn)]; exact hx, r.mono (Ext.cell S hn)⟩
    · rw [List.getElem?_append_right (by omega)] at h1'
      rw [List.getElem?_append_right (by rw [← S.len]; omega)] at h2
      rw [← S.len] at h2
      have e0 : k - st.φ.length = 0 := by
        have := (List.getElem?_eq_some_iff.mp h1').1
        simp at this; omega
      rw [e0] at h1' h2
      simp at h1' h2
      subst h1'; subst h2
      exact ⟨ho, upd_same, r⟩
  · obtain ⟨⟨x, hx⟩, h2⟩ := S.fz b h
    have hb : b ≠ a := ne_of_none hx hn
    refine ⟨⟨x, by rw [upd_ne hb]; exact hx⟩, fun k h1 => ?_⟩
    have h1' : (st.φ ++ [a])[k]? = some b := h1
    by_cases hk : k < st.φ.length
    · rw [List.getElem?_append_left hk] at h1'
      rw [List.getElem?_append_left (by rw [← S.len]; exact hk)]
      exact h2 k h1'
    · rw [List.getElem?_append_right (by omega)] at h1'
      have e0 : k - st.φ.length = 0 := by
        have := (List.getElem?_eq_some_iff.mp h1').1
        simp at this; omega
      rw [e0] at h1'
      simp at h1'
      exact absurd h1'.symm hb
/-- a new object, frozen at once -/
def Wd.frz (st : Wd) (a : Addr) : Wd := ⟨st.φ, fun b => st.F b ∨ b = a⟩
theorem Ext.frozen (S : Sim p st μ H) (hn : H a = none) : Ext p st H (st.frz a) (upd H a ho) := by
  have e := Ext.new (ho := ho) S hn
  exact ⟨List.prefix_rfl, fun b h => .inl h, e.fz, e.tp, e.xd, e.kp, e.nw, fun b h => h.elim .inl fun q => by subst q; exact .inr (.inr hn)⟩
theorem Sim.frozen (S : Sim p st μ H) (hn : H a = none) : Sim p (st.frz a) μ (upd H a ho) := by
  have na := S.notin hn
  refine ⟨S.len, S.inj, fun k b o h1 h2 => ?_, fun b h => ?_⟩
  · obtain ⟨x, hx, r⟩ := S.cel k b o h1 h2
    exact ⟨x, by rw [upd_ne (ne_of_none hx hn)]; exact hx, r.mono (Ext.frozen S hn)⟩
  · rcases h with h | h
    · obtain ⟨⟨x, hx⟩, h2⟩ := S.fz b h
      exact ⟨⟨x, by rw [upd_ne (ne_of_none hx hn)]; exact hx⟩, h2⟩
    · subst h
      exact ⟨⟨ho, upd_same⟩, fun k h1 => absurd (List.mem_of_getElem? h1) na⟩
/-- a cell is written -/
theorem Ext.write {k : Nat} {o : O} {ho0 : HO} (S : Sim p st μ H) (hk : st.φ[k]? = some a) (ho1 : μ[k]? = some o) (hd : o ≠ .dead) (h0 : H a = some ho0) (nt : ∀ xs, ho0 ≠ .tup xs) (nx : ∀ xs, ho0 ≠ .xd xs) (nf : ∀ q xs, ho0 ≠ .frz q xs) : Ext p st H st (upd H a ho) := by
  refine ⟨List.prefix_rfl, fun _ h => h, fun b h => ?_, fun b xs h => ?_, fun b fs h => ?_, fun b h _ => upd_ne fun e => h (by rw [e]; exact List.mem_of_getElem? hk), fun _ h => .inl h, fun _ h => .inl h⟩
  · refine upd_ne fun e => ?_
    subst e
    have := (S.fz b h).2 k hk
    rw [ho1] at this; cases this; exact hd rfl
  · rcases h with (h | ⟨o, h⟩) | h
    · exact .inl (.inl (by rw [upd_ne fun e => by subst e; rw [h0] at h; cases h; exact nt _ rfl]; exact h))
    · exact .inl (.inr ⟨o, by rw [upd_ne fun e => by subst e; rw [h0] at h; cases h; exact nf _ _ rfl]; exact h⟩)
    · exact .inr h
  · rw [upd_ne fun e => by subst e; rw [h0] at h; cases h; exact nx _ rfl]; exact h
theorem Sim.write {k : Nat} {o o' : O} {ho0 : HO} (S : Sim p st μ H) (hk : st.φ[k]? = some a) (ho1 : μ[k]? = some o) (hd : o ≠ .dead) (h0 : H a = some ho0) (nt : ∀ xs, ho0 ≠ .tup xs) (nx : ∀ xs, ho0 ≠ .xd xs) (nf : ∀ q xs, ho0 ≠ .frz q xs)
    (r : RO p st (upd H a ho) o' ho) : Sim p st (μ.set k o') (upd H a ho) := by
  have E := Ext.write (ho := ho) S hk ho1 hd h0 nt nx nf
  refine ⟨by simpa using S.len, S.inj, fun j b q h1 h2 => ?_, fun b h => ?_⟩
  · by_cases hj : j = k
    · subst hj
      rw [hk] at h1; cases h1
      rw [List.getElem?_set_self (List.getElem?_eq_some_iff.mp ho1).1] at h2
      cases h2
      exact ⟨ho, upd_same, r⟩
    · rw [List.getElem?_set_ne (Ne.symm hj)] at h2
      obtain ⟨x, hx, r2⟩ := S.cel j b q h1 h2
      have hb : b ≠ a := fun e => by
        subst e
        apply hj
        have l1 := (List.getElem?_eq_some_iff.mp h1).1
        have l2 := (List.getElem?_eq_some_iff.mp hk).1
        have e1 := (List.getElem?_eq_some_iff.mp h1).2
        have e2 := (List.getElem?_eq_some_iff.mp hk).2
        exact (List.getElem_inj S.inj).mp (e1.trans e2.symm)
      exact ⟨x, by rw [upd_ne hb]; exact hx, r2.mono E⟩
  · obtain ⟨⟨x, hx⟩, h2⟩ := S.fz b h
    refine ⟨⟨x, by rw [E.fz b h]; exact hx⟩, fun j h1 => ?_⟩
    have z := h2 j h1
    have hj : j ≠ k := fun e => by
      subst e
      rw [ho1] at z; cases z; exact hd rfl
    rw [List.getElem?_set_ne (Ne.symm hj)]
    exact z
/-- a cell is frozen where it stands -/
theorem Ext.kill {k : Nat} (hk : st.φ[k]? = some a) : Ext p st H (st.frz a) H := ⟨List.prefix_rfl, fun b h => .inl h, fun _ _ => rfl, fun _ _ h => h, fun _ _ h => h, fun _ _ _ => rfl, fun _ h => .inl h,
  fun b h => h.elim .inl fun q => by subst q; exact .inr (.inl (List.mem_of_getElem? hk))⟩
theorem Sim.kill {k : Nat} {o : O} (S : Sim p st μ H) (hk : st.φ[k]? = some a) (ho1 : μ[k]? = some o) : Sim p (st.frz a) (μ.set k .dead) H := by
  have hl := (List.getElem?_eq_some_iff.mp ho1).1
  have uniq : ∀ j, st.φ[j]? = some a → j = k := fun j h1 => by
    have e1 := (List.getElem?_eq_some_iff.mp h1).2
    have e2 := (List.getElem?_eq_some_iff.mp hk).2
    exact (List.getElem_inj S.inj).mp (e1.trans e2.symm)
  refine ⟨by show st.φ.length = _; simpa using S.len, S.inj, fun j b q h1 h2 => ?_, fun b h => ?_⟩
  · by_cases hj : j = k
    · subst hj
      rw [List.getElem?_set_self hl] at h2
      cases h2
      obtain ⟨x, hx, _⟩ := S.cel j b o h1 ho1
      exact ⟨x, hx, trivial⟩
    · rw [List.getElem?_set_ne (Ne.symm hj)] at h2
      obtain ⟨x, hx, r2⟩ := S.cel j b q h1 h2
      exact ⟨x, hx, r2.mono (Ext.kill hk)⟩
  · rcases h with h | h
    · obtain ⟨hx, h2⟩ := S.fz b h
      refine ⟨hx, fun j h1 => ?_⟩
      by_cases hj : j = k
      · subst hj
        exact List.getElem?_set_self hl
      · rw [List.getElem?_set_ne (Ne.symm hj)]
        exact h2 j h1
    · subst h
      obtain ⟨x, hx, _⟩ := S.cel k b o hk ho1
      refine ⟨⟨x, hx⟩, fun j h1 => ?_⟩
      rw [uniq j h1]
      exact List.getElem?_set_self hl

/-! ### an object beside the cells (a comprehension's list) -/
theorem ExtR.beside {vs : List V} (nF : ¬ st.F a) (ha : H a = some (.lst vs)) : ExtR p st H st (upd H a ho) :=
  ⟨List.prefix_rfl, fun _ h => h, fun b h => upd_ne fun e => nF (e ▸ h), fun b xs h => by
    rcases h with (h | ⟨o, h⟩) | h
    · exact .inl (.inl (by rw [upd_ne fun e => by subst e; rw [ha] at h; cases h]; exact h))
    · exact .inl (.inr ⟨o, by rw [upd_ne fun e => by subst e; rw [ha] at h; cases h]; exact h⟩)
    · exact .inr h⟩
theorem Sim.beside {vs : List V} (S : Sim p st μ H) (nφ : a ∉ st.φ) (nF : ¬ st.F a) (ha : H a = some (.lst vs)) : Sim p st μ (upd H a ho) := by
  refine ⟨S.len, S.inj, fun k b o h1 h2 => ?_, fun b h => ?_⟩
  · obtain ⟨x, hx, r⟩ := S.cel k b o h1 h2
    exact ⟨x, (upd_ne fun (e : b = a) => nφ (e ▸ List.mem_of_getElem? h1)).trans hx, r.monoR (ExtR.beside nF ha)⟩
  · obtain ⟨⟨x, hx⟩, h2⟩ := S.fz b h
    exact ⟨⟨x, (upd_ne fun (e : b = a) => nF (e ▸ h)).trans hx⟩, h2⟩
/-- .. over the state ahead of it -/
theorem Ext.besideW {st0 : Wd} {μ0 : Sto} {H0 : Hp} {vs : List V} (S0 : Sim p st0 μ0 H0) (e : Ext p st0 H0 st H) (h0 : H0 a = none) (ha : H a = some (.lst vs)) : Ext p st0 H0 st (upd H a ho) :=
  ⟨e.φ, e.F, fun b h => by
    obtain ⟨⟨x, hx⟩, _⟩ := S0.fz b h
    rw [upd_ne (ne_of_none hx h0)]; exact e.fz b h, fun b xs h => by
    rcases e.tp b xs h with (h | ⟨o, h⟩) | h
    · exact .inl (.inl (by rw [upd_ne fun e => by subst e; rw [ha] at h; cases h]; exact h))
    · exact .inl (.inr ⟨o, by rw [upd_ne fun e => by subst e; rw [ha] at h; cases h]; exact h⟩)
    · exact .inr h, fun b fs h => by rw [upd_ne (ne_of_none h h0)]; exact e.xd b fs h, fun b h1 h2 => by rw [upd_ne fun q => h2 (by rw [q]; exact h0)]; exact e.kp b h1 h2, e.nw, e.nF⟩
theorem Ext.besideC {st0 : Wd} {H0 : Hp} (e : Ext p st0 H0 st H) (h0 : H0 a = none) : Ext p st0 H0 (st.add a) H :=
  ⟨e.φ.trans (List.prefix_append _ _), e.F, e.fz, e.tp, e.xd, e.kp, fun b h => by
    have h' : b ∈ st.φ ++ [a] := h
    rcases List.mem_append.mp h' with h' | h'
    · exact e.nw b h'
    · simp at h'; subst h'; exact .inr h0, e.nF⟩
theorem Ext.besideF {st0 : Wd} {H0 : Hp} (e : Ext p st0 H0 st H) (h0 : H0 a = none) : Ext p st0 H0 (st.frz a) H :=
  ⟨e.φ, fun b h => .inl (e.F b h), e.fz, e.tp, e.xd, e.kp, e.nw, fun b h => h.elim (e.nF b) fun q => by subst q; exact .inr (.inr h0)⟩
theorem Sim.besideF {vs : List V} (S : Sim p st μ H) (nφ : a ∉ st.φ) (ha : H a = some (.lst vs)) : Sim p (st.frz a) μ H := by
  have E : ExtR p st H (st.frz a) H := ⟨List.prefix_rfl, fun _ h => .inl h, fun _ _ => rfl, fun _ _ h => h⟩
  refine ⟨S.len, S.inj, fun k b o h1 h2 => ?_, fun b h => ?_⟩
  · obtain ⟨x, hx, r⟩ := S.cel k b o h1 h2
    exact ⟨x, hx, r.monoR E⟩
  · rcases h with h | h
    · exact S.fz b h
    · subst h
      exact ⟨⟨_, ha⟩, fun k h1 => absurd (List.mem_of_getElem? h1) nφ⟩
theorem Sim.besideC {vs : List V} {ds : List D} (S : Sim p st μ H) (nφ : a ∉ st.φ) (nF : ¬ st.F a) (ha : H a = some (.lst vs)) (r : RDs p st H ds vs) : Sim p (st.add a) (μ ++ [.lst ds]) H := by
  have E : ExtR p st H (st.add a) H := ⟨List.prefix_append _ _, fun _ h => h, fun _ _ => rfl, fun _ _ h => h⟩
  refine ⟨by simp [Wd.add, S.len], ?_, fun k b o' h1 h2 => ?_, fun b h => ?_⟩
  · show (st.φ ++ [a]).Nodup
    rw [List.nodup_append]
    refine ⟨S.inj, by simp, fun x hx y hy => ?_⟩
    simp at hy; subst hy
    exact fun e => nφ (e ▸ hx)
  · have h1' : (st.φ ++ [a])[k]? = some b := h1
    by_cases hk : k < st.φ.length
    · rw [List.getElem?_append_left hk] at h1'
      rw [List.getElem?_append_left (by rw [← S.len]; exact hk)] at h2
      obtain ⟨x, hx, r⟩ := S.cel k b o' h1' h2
      exact ⟨x, hx, r.monoR E⟩
    · rw [List.getElem?_append_right (by omega)] at h1'
      rw [List.getElem?_append_right (by rw [← S.len]; omega)] at h2
      rw [← S.len] at h2
      have e0 : k - st.φ.length = 0 := by
        have := (List.getElem?_eq_some_iff.mp h1').1
        simp at this; omega
      rw [e0] at h1' h2
      simp at h1' h2
      subst h1'; subst h2
      exact ⟨_, ha, vs, rfl, r.monoR E⟩
  · obtain ⟨hx, h2⟩ := S.fz b h
    refine ⟨hx, fun k h1 => ?_⟩
    have h1' : (st.φ ++ [a])[k]? = some b := h1
    by_cases hk : k < st.φ.length
    · rw [List.getElem?_append_left hk] at h1'
      rw [List.getElem?_append_left (by rw [← S.len]; exact hk)]
      exact h2 k h1'
    · rw [List.getElem?_append_right (by omega)] at h1'
      have e0 : k - st.φ.length = 0 := by
        have := (List.getElem?_eq_some_iff.mp h1').1
        simp at this; omega
      rw [e0] at h1'
      simp at h1'
      exact absurd (h1' ▸ h) nF
end
end Ab

set_option maxRecDepth 100000
set_option maxHeartbeats 1000000
namespace Ab
open PySem L2

inductive Out (α : Type) where
  | ok (a : α) (μ : Sto)
  | exc (c : Nat) (ds : List D) (μ : Sto)
abbrev Env' := List (Option D)
abbrev R (α : Type) := Option (Out α)
abbrev M (α : Type) := Env' → Sto → R α

/-- the slots -/
def Sl (p : Par) (st : Wd) (H : Hp) (Γ : Env') (σ : L2.St) : Prop :=
  Γ.length = σ.length ∧ ∀ (i : Nat) d, Γ[i]? = some (some d) → ∃ v, σ[i]? = some (some v) ∧ RD p st H d v
theorem Sl.mono {p : Par} {st st' : Wd} {H H' : Hp} {Γ : Env'} {σ : L2.St} (e : Ext p st H st' H') (h : Sl p st H Γ σ) : Sl p st' H' Γ σ :=
  ⟨h.1, fun i d q => let ⟨v, h1, h2⟩ := h.2 i d q; ⟨v, h1, h2.mono e⟩⟩
theorem Sl.set {p : Par} {st : Wd} {H : Hp} {Γ : Env'} {σ : L2.St} {i : Nat} {d : D} {v : V} (h : Sl p st H Γ σ) (r : RD p st H d v) : Sl p st H (Γ.set i (some d)) (σ.set i (some v)) := by
  refine ⟨by simpa using h.1, fun j e q => ?_⟩
  by_cases hj : j = i
  · subst hj
    have hl : j < Γ.length := by
      have := (List.getElem?_eq_some_iff.mp q).1
      simpa using this
    rw [List.getElem?_set_self hl] at q
    cases q
    exact ⟨v, List.getElem?_set_self (by rw [← h.1]; exact hl), r⟩
  · rw [List.getElem?_set_ne (Ne.symm hj)] at q ⊢
    exact h.2 j e q

/-- an exception's fields lie at dd -/
def XD (p : Par) (st : Wd) (H : Hp) (c : Nat) (ds : List D) (dd : Addr) : Prop := ∃ vs, H dd = some (.xd ((p.cn c).zip vs)) ∧ RDs p st H ds vs ∧ vs.length = (p.cn c).length
theorem XD.mono {p : Par} {st st' : Wd} {H H' : Hp} {c : Nat} {ds : List D} {dd : Addr} (e : Ext p st H st' H') (h : XD p st H c ds dd) : XD p st' H' c ds dd :=
  let ⟨vs, h1, h2, h3⟩ := h; ⟨vs, e.xd dd _ h1, h2.mono e, h3⟩

def Post {α β : Type} (p : Par) (W : WX) (rel : Wd → Hp → α → β → Prop) (st : Wd) (σ : L2.St) (H : Hp) (r : R α) (Q : β → Hp → Prop) : Prop :=
  match r with
  | some (.ok a μ') => ∀ st' H' b, Ext p st H st' H' → Sim p st' μ' H' → rel st' H' a b → Q b H'
  | some (.exc c ds μ') => ∀ st' H' dd, Ext p st H st' H' → Sim p st' μ' H' → XD p st' H' c ds dd → W (.ref (p.ca c)) (some dd) σ H'
  | none => False
def tG {α β : Type} (p : Par) (W : WX) (rel : Wd → Hp → α → β → Prop) (m : M α) : L2.St → Hp → (β → Hp → Prop) → Prop := fun σ H Q =>
  ∃ Γ μ st, Sim p st μ H ∧ Sl p st H Γ σ ∧ Post p W rel st σ H (m Γ μ) Q
abbrev tA (p : Par) (W : WX) (m : M D) : TE := tG p W (RD p) m
abbrev tT (p : Par) (W : WX) (m : M Bool) : TT := tG p W (fun _ _ a b => a = b) m
abbrev tL (p : Par) (W : WX) (m : M (List D)) : TA := tG p W (RDs p) m

/-- judgements: the expression e is worth m -/
def AE (p : Par) (X : Cx) (W : WX) (e : Expr) (m : M D) : Prop := X.K = p.K ∧ PE X e (tA p W m)
def AT (p : Par) (X : Cx) (W : WX) (e : Expr) (m : M Bool) : Prop := X.K = p.K ∧ PT X e (tT p W m)
def AA (p : Par) (X : Cx) (W : WX) (es : List Expr) (m : M (List D)) : Prop := X.K = p.K ∧ PA X es (tL p W m)

theorem PE.imp {X : Cx} {e : Expr} {t t' : TE} (h : PE X e t) (i : ∀ σ H Q, t' σ H Q → t σ H Q) : PE X e t' := ⟨fun pins s σ H Q I q => h.run pins s σ H Q I (i σ H Q q)⟩
theorem PT.imp {X : Cx} {e : Expr} {t t' : TT} (h : PT X e t) (i : ∀ σ H Q, t' σ H Q → t σ H Q) : PT X e t' := ⟨fun pins s σ H Q I q => h.run pins s σ H Q I (i σ H Q q)⟩
theorem PW.imp {X : Cx} {e : Expr} {t t' : TT} (h : PW X e t) (i : ∀ σ H Q, t' σ H Q → t σ H Q) : PW X e t' := ⟨fun wh pins s σ H Q I q => h.run wh pins s σ H Q I (i σ H Q q)⟩
theorem PA.imp {X : Cx} {e : List Expr} {t t' : TA} (h : PA X e t) (i : ∀ σ H Q, t' σ H Q → t σ H Q) : PA X e t' := ⟨fun pos pins s σ H Q I q => h.run pos pins s σ H Q I (i σ H Q q)⟩

/-! ### the monad -/
def ret {α : Type} (a : α) : M α := fun _ μ => some (.ok a μ)
def bnd {α β : Type} (m : M α) (k : α → M β) : M β := fun Γ μ =>
  match m Γ μ with
  | some (.ok a μ') => k a Γ μ'
  | some (.exc c ds μ') => some (.exc c ds μ')
  | none => none
/-- a thing that hangs on the store alone -/
def opS {α : Type} (f : Sto → Option (α × Sto)) : M α := fun _ μ =>
  match f μ with
  | some (a, μ') => some (.ok a μ')
  | none => none
@[simp] theorem ret_ap {α : Type} (a : α) (Γ : Env') (μ : Sto) : ret a Γ μ = some (.ok a μ) := rfl

section
variable {p : Par} {X : Cx} {W : WX} {α β γ δ : Type}
/-- the first part of a bnd, what follows told at the state behind it -/
theorem tG_bnd {rel : Wd → Hp → α → β → Prop} {rel' : Wd → Hp → γ → δ → Prop} {m : M α} {k : α → M γ} {σ : L2.St} {H : Hp} {Q : δ → Hp → Prop} {Q1 : β → Hp → Prop} (h : tG p W rel' (bnd m k) σ H Q)
    (hk : ∀ Γ a b μ' st' H', Sim p st' μ' H' → Sl p st' H' Γ σ → rel st' H' a b → Post p W rel' st' σ H' (k a Γ μ') Q → Q1 b H') : tG p W rel m σ H Q1 := by
  obtain ⟨Γ, μ, st, S, L, P⟩ := h
  refine ⟨Γ, μ, st, S, L, ?_⟩
  unfold Post bnd at *
  cases hm : m Γ μ with
  | none => rw [hm] at P; exact P
  | some r =>
    rw [hm] at P
    cases r with
    | exc c ds μ' => exact P
    | ok a μ' =>
      dsimp only at P ⊢
      intro st' H' b e S' rl
      refine hk Γ a b μ' st' H' S' (L.mono e) rl ?_
      cases hk2 : k a Γ μ' with
      | none => rw [hk2] at P; exact P
      | some r2 =>
        rw [hk2] at P
        cases r2 with
        | ok c μ2 => exact fun st2 H2 b2 e2 S2 rl2 => P st2 H2 b2 (e.trans e2) S2 rl2
        | exc c ds μ2 => exact fun st2 H2 b2 e2 S2 rl2 => P st2 H2 b2 (e.trans e2) S2 rl2
/-- .. with the extension told -/
theorem tG_bndE {rel : Wd → Hp → α → β → Prop} {rel' : Wd → Hp → γ → δ → Prop} {m : M α} {k : α → M γ} {σ : L2.St} {H : Hp} {Q : δ → Hp → Prop} {Q1 : β → Hp → Prop} {Γ : Env'} {μ : Sto} {st : Wd} (S : Sim p st μ H) (L : Sl p st H Γ σ) (P : Post p W rel' st σ H (bnd m k Γ μ) Q)
    (hk : ∀ a b μ' st' H', Ext p st H st' H' → Sim p st' μ' H' → Sl p st' H' Γ σ → rel st' H' a b → Post p W rel' st' σ H' (k a Γ μ') Q → Q1 b H') : tG p W rel m σ H Q1 := by
  refine ⟨Γ, μ, st, S, L, ?_⟩
  unfold Post bnd at *
  cases hm : m Γ μ with
  | none => rw [hm] at P; exact P
  | some r =>
    rw [hm] at P
    cases r with
    | exc c ds μ' => exact P
    | ok a μ' =>
      dsimp only at P ⊢
      intro st' H' b e S' rl
      refine hk a b μ' st' H' e S' (L.mono e) rl ?_
      cases hk2 : k a Γ μ' with
      | none => rw [hk2] at P; exact P
      | some r2 =>
        rw [hk2] at P
        cases r2 with
        | ok c μ2 => exact fun st2 H2 b2 e2 S2 rl2 => P st2 H2 b2 (e.trans e2) S2 rl2
        | exc c ds μ2 => exact fun st2 H2 b2 e2 S2 rl2 => P st2 H2 b2 (e.trans e2) S2 rl2
theorem Post.ext {rel : Wd → Hp → α → β → Prop} {st st' : Wd} {σ : L2.St} {H H' : Hp} {r : R α} {Q : β → Hp → Prop} (P : Post p W rel st σ H r Q) (e : Ext p st H st' H') : Post p W rel st' σ H' r Q := by
  unfold Post at *
  cases r with
  | none => exact P
  | some o =>
    cases o with
    | ok a μ' => exact fun st2 H2 b2 e2 S2 rl2 => P st2 H2 b2 (e.trans e2) S2 rl2
    | exc c ds μ' => exact fun st2 H2 b2 e2 S2 rl2 => P st2 H2 b2 (e.trans e2) S2 rl2
/-- the end -/
theorem Post.ret {rel : Wd → Hp → α → β → Prop} {a : α} {b : β} {μ : Sto} {st : Wd} {σ : L2.St} {H : Hp} {Q : β → Hp → Prop} (h : Post p W rel st σ H (some (.ok a μ)) Q) (S : Sim p st μ H) (r : rel st H a b) : Q b H := h st H b Ext.refl S r

/-! ### names and constants -/
def eVar (i : Nat) : M D := fun Γ μ => match Γ[i]? with | some (some d) => some (.ok d μ) | _ => none
theorem ae_var {i : Nat} {e : Expr} (hK : X.K = p.K) (h : PE X e (tVar i)) : AE p X W e (eVar i) := by
  refine ⟨hK, PE.imp h fun σ H Q ⟨Γ, μ, st, S, L, P⟩ => ?_⟩
  unfold Post eVar at P
  cases hm : Γ[i]? with
  | none => rw [hm] at P; exact P.elim
  | some o =>
    rw [hm] at P
    cases o with
    | none => exact P.elim
    | some d =>
      obtain ⟨v, h1, h2⟩ := L.2 i d hm
      exact ⟨v, h1, P st H v Ext.refl S h2⟩
def eC (d : D) : M D := ret d
theorem ae_c {e : Expr} {v : V} {d : D} (hK : X.K = p.K) (h : PE X e (tC v)) (hd : ∀ st H, RD p st H d v) : AE p X W e (eC d) :=
  ⟨hK, PE.imp h fun σ H Q ⟨Γ, μ, st, S, L, P⟩ => P st H v Ext.refl S (hd st H)⟩
theorem ae_int {i j pos} (hK : X.K = p.K) : AE p X W (.Constant (.int i) j pos) (eC (.int i)) := ae_c hK pe_int fun _ _ => by simp only [RD]
theorem ae_bl {i j pos} (hK : X.K = p.K) : AE p X W (.Constant (.bool i) j pos) (eC (.bl i)) := ae_c hK pe_bl fun _ _ => by simp only [RD]
theorem ae_non {j pos} (hK : X.K = p.K) : AE p X W (.Constant .none j pos) (eC .non) := ae_c hK pe_non fun _ _ => by simp only [RD]
theorem ae_str {x : Str} {l : List Nat} {j pos} (hK : X.K = p.K) (h : x = mkS l := by rfl) (hl : l.length ≤ 1000000 := by decide) : AE p X W (.Constant (.str x) j pos) (eC (.str l)) := ae_c hK pe_str fun _ _ => by simp only [RD]; exact ⟨by rw [h], Nat.le_trans hl (by decide)⟩

/-! ### operators by values -/
/-- f is what the reading r of two values comes to -/
def OpS (p : Par) (r : R2) (f : D → D → Sto → Option (D × Sto)) : Prop := ∀ (st : Wd) (μ μ' : Sto) (H : Hp) (x y z : D) (v w : V) (Q : VK), Sim p st μ H → RD p st H x v → RD p st H y w → f x y μ = some (z, μ') →
  (∀ st' H' u, Ext p st H st' H' → Sim p st' μ' H' → RD p st' H' z u → Q u H') → r v w H Q
def eOp (f : D → D → Sto → Option (D × Sto)) (a b : M D) : M D := bnd a fun x => bnd b fun y => opS (f x y)
theorem Post.opS {rel : Wd → Hp → α → β → Prop} {f : Sto → Option (α × Sto)} {Γ : Env'} {μ : Sto} {st : Wd} {σ : L2.St} {H : Hp} {Q : β → Hp → Prop} (h : Post p W rel st σ H (opS f Γ μ) Q) :
    ∃ a μ', f μ = some (a, μ') ∧ ∀ st' H' b, Ext p st H st' H' → Sim p st' μ' H' → rel st' H' a b → Q b H' := by
  unfold Post Ab.opS at h
  cases hf : f μ with
  | none => rw [hf] at h; exact h.elim
  | some r => rw [hf] at h; exact ⟨r.1, r.2, rfl, h⟩
theorem tOp_of {r : R2} {f : D → D → Sto → Option (D × Sto)} {ma mb : M D} (hr : OpS p r f) (σ : L2.St) (H : Hp) (Q : VK) (h : tA p W (eOp f ma mb) σ H Q) : tOp r (tA p W ma) (tA p W mb) σ H Q := by
  obtain ⟨Γ, μ, st, S, L, P⟩ := h
  refine tG_bndE (rel := RD p) S L P fun x v μ1 st1 H1 e1 S1 L1 r1 P1 => ?_
  refine tG_bndE (rel := RD p) S1 L1 P1 fun y w μ2 st2 H2 e2 S2 L2 r2 P2 => ?_
  obtain ⟨z, μ3, hf, k⟩ := P2.opS
  exact hr st2 μ2 μ3 H2 x y z v w Q S2 (r1.mono e2) r2 hf k
theorem ae_op {a b : Expr} {op : Operator} {pos : Pos} {r : R2} {f : D → D → Sto → Option (D × Sto)} {ma mb : M D} (ho : OpR X (binaryOp op) r) (hr : OpS p r f) (ha : AE p X W a ma) (hb : AE p X W b mb) : AE p X W (.BinOp a op b pos) (eOp f ma mb) :=
  ⟨ha.1, PE.imp (pe_op ho ha.2 hb.2) fun σ H Q h => tOp_of hr σ H Q h⟩
theorem ae_cmp {a b : Expr} {op : CmpOp} {pos : Pos} {r : R2} {f : D → D → Sto → Option (D × Sto)} {ma mb : M D} (ho : OpR X (compareOp op) r) (hr : OpS p r f) (ha : AE p X W a ma) (hb : AE p X W b mb) (hm : behindInMarks op b = false) : AE p X W (.Compare a [op] [b] pos) (eOp f ma mb) :=
  ⟨ha.1, PE.imp (pe_cmpR ho ha.2 hb.2 hm) fun σ H Q h => tOp_of hr σ H Q h⟩
/-- a test of a comparison -/
def asB : D → M Bool
  | .bl b => ret b
  | _ => fun _ _ => none
def mB (m : M D) : M Bool := bnd m asB
theorem post_mB {d : D} {v : V} {Γ : Env'} {μ : Sto} {st : Wd} {σ : L2.St} {H : Hp} {Q : Bool → Hp → Prop} (r : RD p st H d v) (S : Sim p st μ H) (P : Post p W (fun _ _ (a b : Bool) => a = b) st σ H (asB d Γ μ) Q) : ∃ c, v = .bl c ∧ Q c H := by
  cases d with
  | bl b =>
    simp only [RD] at r
    exact ⟨b, r, P st H b Ext.refl S rfl⟩
  | _ => exact P.elim
theorem at_cmp {a b : Expr} {op : CmpOp} {pos : Pos} {r : R2} {f : D → D → Sto → Option (D × Sto)} {ma mb : M D} (ho : OpR X (compareOp op) r) (hr : OpS p r f) (ha : AE p X W a ma) (hb : AE p X W b mb) (hm : behindInMarks op b = false) : AT p X W (.Compare a [op] [b] pos) (mB (eOp f ma mb)) := by
  refine ⟨ha.1, PT.imp (pt_cmpR ho ha.2 hb.2 hm) fun σ H Q h => ?_⟩
  refine tOp_of (W := W) hr σ H _ ?_
  exact tG_bnd (rel := RD p) h fun Γ d v μ1 st1 H1 S1 L1 r1 P1 => post_mB r1 S1 P1
/-- an expression worth a bool, as a test -/
theorem at_val {e : Expr} {m : M D} (h : AE p X W e m) (he : ∀ whole, isTrue e X.env whole = (do let v ← whole; standAt e.pos; holding [v] (truthy v)) := by intro _; rfl) : AT p X W e (mB m) :=
  ⟨h.1, PT.imp (pt_val h.2 he) fun σ H Q h => tG_bnd (rel := RD p) h fun Γ d v μ1 st1 H1 S1 L1 r1 P1 => post_mB r1 S1 P1⟩

/-! ### and, or, not, if .. else -/
def bAnd (a b : M Bool) : M Bool := bnd a fun c => if c = true then b else ret false
def bOr (a b : M Bool) : M Bool := bnd a fun c => if c = true then ret true else b
def bNot (a : M Bool) : M Bool := bnd a fun c => ret (!c)
def AWt (p : Par) (X : Cx) (W : WX) (e : Expr) (m : M Bool) : Prop := X.K = p.K ∧ PW X e (tT p W m)
theorem AWt.at {e : Expr} {m : M Bool} (h : AWt p X W e m) : AT p X W e m := ⟨h.1, h.2.pt⟩
variable {a b c : Expr} {rest : List Expr} {pos : Pos} {ma mb mc : M Bool}
theorem aw_and1 (h : AT p X W a ma) : AWt p X W (.BoolOp .And [a] pos) ma := ⟨h.1, pw_and1 h.2⟩
theorem aw_or1 (h : AT p X W a ma) : AWt p X W (.BoolOp .Or [a] pos) ma := ⟨h.1, pw_or1 h.2⟩
theorem aw_and (h : AT p X W a ma) (g : AWt p X W (.BoolOp .And (b :: rest) pos) mb) : AWt p X W (.BoolOp .And (a :: b :: rest) pos) (bAnd ma mb) := by
  refine ⟨h.1, PW.imp (pw_and h.2 g.2) fun σ H Q ⟨Γ, μ, st, S, L, P⟩ => ?_⟩
  refine tG_bndE (rel := fun _ _ (a b : Bool) => a = b) S L P fun x v μ1 st1 H1 e1 S1 L1 r1 P1 => ?_
  subst r1
  cases x with
  | true => exact ⟨Γ, μ1, st1, S1, L1, P1⟩
  | false => exact Post.ret P1 S1 rfl
theorem aw_or (h : AT p X W a ma) (g : AWt p X W (.BoolOp .Or (b :: rest) pos) mb) : AWt p X W (.BoolOp .Or (a :: b :: rest) pos) (bOr ma mb) := by
  refine ⟨h.1, PW.imp (pw_or h.2 g.2) fun σ H Q ⟨Γ, μ, st, S, L, P⟩ => ?_⟩
  refine tG_bndE (rel := fun _ _ (a b : Bool) => a = b) S L P fun x v μ1 st1 H1 e1 S1 L1 r1 P1 => ?_
  subst r1
  cases x with
  | true => exact Post.ret P1 S1 rfl
  | false => exact ⟨Γ, μ1, st1, S1, L1, P1⟩
theorem at_not (h : AT p X W a ma) : AT p X W (.UnaryOp .Not a pos) (bNot ma) := by
  refine ⟨h.1, PT.imp (pt_not h.2) fun σ H Q ⟨Γ, μ, st, S, L, P⟩ => ?_⟩
  refine tG_bndE (rel := fun _ _ (a b : Bool) => a = b) S L P fun x v μ1 st1 H1 e1 S1 L1 r1 P1 => ?_
  subst r1
  exact Post.ret P1 S1 rfl
/-- as values, of bools -/
def vAnd (a b : M D) : M D := bnd a fun d => match d with | .bl true => b | .bl false => ret (.bl false) | _ => fun _ _ => none
def vOr (a b : M D) : M D := bnd a fun d => match d with | .bl false => b | .bl true => ret (.bl true) | _ => fun _ _ => none
def vNot (a : M D) : M D := bnd a fun d => match d with | .bl b => ret (.bl (!b)) | _ => fun _ _ => none
variable {va vb : M D}
theorem ae_one {op} (h : AE p X W a va) : AE p X W (.BoolOp op [a] pos) va := ⟨h.1, pe_one h.2⟩
theorem ae_and (h : AE p X W a va) (g : AE p X W (.BoolOp .And (b :: rest) pos) vb) : AE p X W (.BoolOp .And (a :: b :: rest) pos) (vAnd va vb) := by
  refine ⟨h.1, PE.imp (pe_and h.2 g.2) fun σ H Q ⟨Γ, μ, st, S, L, P⟩ => ?_⟩
  refine tG_bndE (rel := RD p) S L P fun x v μ1 st1 H1 e1 S1 L1 r1 P1 => ?_
  cases x with
  | bl b =>
    simp only [RD] at r1
    refine ⟨b, r1, ?_⟩
    cases b with
    | true => exact ⟨Γ, μ1, st1, S1, L1, P1⟩
    | false => exact Post.ret P1 S1 (by simp only [RD])
  | _ => exact P1.elim
theorem ae_or (h : AE p X W a va) (g : AE p X W (.BoolOp .Or (b :: rest) pos) vb) : AE p X W (.BoolOp .Or (a :: b :: rest) pos) (vOr va vb) := by
  refine ⟨h.1, PE.imp (pe_or h.2 g.2) fun σ H Q ⟨Γ, μ, st, S, L, P⟩ => ?_⟩
  refine tG_bndE (rel := RD p) S L P fun x v μ1 st1 H1 e1 S1 L1 r1 P1 => ?_
  cases x with
  | bl b =>
    simp only [RD] at r1
    refine ⟨b, r1, ?_⟩
    cases b with
    | true => exact Post.ret P1 S1 (by simp only [RD])
    | false => exact ⟨Γ, μ1, st1, S1, L1, P1⟩
  | _ => exact P1.elim
theorem ae_not (h : AE p X W a va) : AE p X W (.UnaryOp .Not a pos) (vNot va) := by
  refine ⟨h.1, PE.imp (pe_not h.2) fun σ H Q ⟨Γ, μ, st, S, L, P⟩ => ?_⟩
  refine tG_bndE (rel := RD p) S L P fun x v μ1 st1 H1 e1 S1 L1 r1 P1 => ?_
  cases x with
  | bl b =>
    simp only [RD] at r1
    exact ⟨b, r1, Post.ret P1 S1 (by simp only [RD])⟩
  | _ => exact P1.elim
def eIf (c : M Bool) (a b : M D) : M D := bnd c fun k => if k = true then a else b
theorem ae_if (hc : AT p X W c mc) (ha : AE p X W a va) (hb : AE p X W b vb) : AE p X W (.IfExp c a b pos) (eIf mc va vb) := by
  refine ⟨hc.1, PE.imp (pe_ifExp hc.2 ha.2 hb.2) fun σ H Q ⟨Γ, μ, st, S, L, P⟩ => ?_⟩
  refine tG_bndE (rel := fun _ _ (a b : Bool) => a = b) S L P fun x v μ1 st1 H1 e1 S1 L1 r1 P1 => ?_
  subst r1
  cases x with
  | true => exact ⟨Γ, μ1, st1, S1, L1, P1⟩
  | false => exact ⟨Γ, μ1, st1, S1, L1, P1⟩

/-! ### argument lists, displays -/
def aNil : M (List D) := ret []
def aCons (a : M D) (r : M (List D)) : M (List D) := bnd a fun x => bnd r fun xs => ret (x :: xs)
variable {e : Expr} {es : List Expr} {me : M D} {mes : M (List D)}
theorem aa_nil (hK : X.K = p.K) : AA p X W [] aNil := ⟨hK, PA.imp pa_nil fun σ H Q ⟨Γ, μ, st, S, L, P⟩ => P st H [] Ext.refl S RDs.nil⟩
theorem aa_cons (h : AE p X W e me) (g : AA p X W es mes) (hs : starEach (e :: es) X.env = (false, eval e X.env) :: starEach es X.env := by rfl) : AA p X W (e :: es) (aCons me mes) := by
  refine ⟨h.1, PA.imp (pa_cons h.2 g.2 hs) fun σ H Q ⟨Γ, μ, st, S, L, P⟩ => ?_⟩
  refine tG_bndE (rel := RD p) S L P fun x v μ1 st1 H1 e1 S1 L1 r1 P1 => ?_
  refine tG_bndE (rel := RDs p) S1 L1 P1 fun y w μ2 st2 H2 e2 S2 L2 r2 P2 => ?_
  exact Post.ret P2 S2 (RDs.cons (r1.mono e2) r2)
/-- displays: a tuple; a list that stands frozen; a list as a cell -/
def eTup (m : M (List D)) : M D := bnd m fun ds => fun _ μ => if ds.length ≤ 1000000 then some (.ok (.tup ds) μ) else none
def eLstF (m : M (List D)) : M D := bnd m fun ds => fun _ μ => if ds.length ≤ 1000000 then some (.ok (.lst ds) μ) else none
def eLstC (m : M (List D)) : M D := bnd m fun ds => fun _ μ => if ds.length ≤ 1000000 then some (.ok (.ref μ.length) (μ ++ [.lst ds])) else none
theorem sz6 {n : Nat} (h : n ≤ 1000000) : n ≤ sizeLine := Nat.le_trans h (by decide)
/-- new objects of values -/
theorem new_tup {st : Wd} {μ : Sto} {H : Hp} {q : Addr} {ds : List D} {vs : List V} (S : Sim p st μ H) (hn : H q = none) (r : RDs p st H ds vs) :
    Ext p st H st (upd H q (.tup vs)) ∧ Sim p st μ (upd H q (.tup vs)) ∧ RD p st (upd H q (.tup vs)) (.tup ds) (.ref q) :=
  ⟨Ext.new S hn, S.new hn, by simp only [RD]; exact ⟨q, vs, rfl, SqT.of upd_same, r.mono (Ext.new S hn)⟩⟩
theorem new_frz {st : Wd} {μ : Sto} {H : Hp} {q : Addr} {ds : List D} {vs : List V} (S : Sim p st μ H) (hn : H q = none) (r : RDs p st H ds vs) :
    Ext p st H (st.frz q) (upd H q (.lst vs)) ∧ Sim p (st.frz q) μ (upd H q (.lst vs)) ∧ RD p (st.frz q) (upd H q (.lst vs)) (.lst ds) (.ref q) :=
  ⟨Ext.frozen S hn, S.frozen hn, by simp only [RD]; exact ⟨q, vs, rfl, ⟨.inr rfl, upd_same⟩, r.mono (Ext.frozen S hn)⟩⟩
theorem new_cel {st : Wd} {μ : Sto} {H : Hp} {q : Addr} {ds : List D} {vs : List V} (S : Sim p st μ H) (hn : H q = none) (r : RDs p st H ds vs) :
    Ext p st H (st.add q) (upd H q (.lst vs)) ∧ Sim p (st.add q) (μ ++ [.lst ds]) (upd H q (.lst vs)) ∧ RD p (st.add q) (upd H q (.lst vs)) (.ref μ.length) (.ref q) :=
  ⟨Ext.cell S hn, S.cell hn ⟨vs, rfl, r.mono (Ext.cell S hn)⟩, by simp only [RD]; exact ⟨q, rfl, by show (st.φ ++ [q])[μ.length]? = some q; rw [← S.len]; simp⟩⟩
theorem ae_tup {x1} (h : AA p X W es mes) : AE p X W (.Tuple es x1 pos) (eTup mes) := by
  refine ⟨h.1, PE.imp (pe_tup h.2) fun σ H Q ⟨Γ, μ, st, S, L, P⟩ => ?_⟩
  refine tG_bndE (rel := RDs p) S L P fun ds vs μ1 st1 H1 e1 S1 L1 r1 P1 => ?_
  unfold Post at P1
  split at P1
  · rename_i heq
    split at heq
    · rename_i hl
      cases heq
      refine ⟨by rw [← r1.length]; exact sz6 hl, fun q hq => ?_⟩
      obtain ⟨a1, a2, a3⟩ := new_tup S1 hq r1
      exact P1 _ _ _ a1 a2 a3
    · cases heq
  · rename_i heq
    split at heq <;> cases heq
  · exact P1.elim
theorem ae_lstF (h : AA p X W es mes) : AE p X W (.List es pos) (eLstF mes) := by
  refine ⟨h.1, PE.imp (pe_lst h.2) fun σ H Q ⟨Γ, μ, st, S, L, P⟩ => ?_⟩
  refine tG_bndE (rel := RDs p) S L P fun ds vs μ1 st1 H1 e1 S1 L1 r1 P1 => ?_
  unfold Post at P1
  split at P1
  · rename_i heq
    split at heq
    · rename_i hl
      cases heq
      refine ⟨by rw [← r1.length]; exact sz6 hl, fun q hq => ?_⟩
      obtain ⟨a1, a2, a3⟩ := new_frz S1 hq r1
      exact P1 _ _ _ a1 a2 a3
    · cases heq
  · rename_i heq
    split at heq <;> cases heq
  · exact P1.elim
theorem ae_lstC (h : AA p X W es mes) : AE p X W (.List es pos) (eLstC mes) := by
  refine ⟨h.1, PE.imp (pe_lst h.2) fun σ H Q ⟨Γ, μ, st, S, L, P⟩ => ?_⟩
  refine tG_bndE (rel := RDs p) S L P fun ds vs μ1 st1 H1 e1 S1 L1 r1 P1 => ?_
  unfold Post at P1
  split at P1
  · rename_i heq
    split at heq
    · rename_i hl
      cases heq
      refine ⟨by rw [← r1.length]; exact sz6 hl, fun q hq => ?_⟩
      obtain ⟨a1, a2, a3⟩ := new_cel S1 hq r1
      exact P1 _ _ _ a1 a2 a3
    · cases heq
  · rename_i heq
    split at heq <;> cases heq
  · exact P1.elim
end
end Ab

set_option maxRecDepth 100000
set_option maxHeartbeats 1000000
namespace Ab
open PySem L2

/-! ### what an operation makes: a value, or a new list, frozen or as a cell -/
inductive NV where
  | v (d : D) | l (ds : List D)
def fin (c : Bool) (μ : Sto) : NV → D × Sto
  | .v d => (d, μ)
  | .l ds => if c then (.ref μ.length, μ ++ [.lst ds]) else (.lst ds, μ)
@[simp] theorem fin_v (c : Bool) (μ : Sto) (d : D) : fin c μ (.v d) = (d, μ) := rfl
@[simp] theorem fin_lF (μ : Sto) (ds : List D) : fin false μ (.l ds) = (.lst ds, μ) := rfl
@[simp] theorem fin_lT (μ : Sto) (ds : List D) : fin true μ (.l ds) = (.ref μ.length, μ ++ [.lst ds]) := rfl
abbrev big : Nat := 1000000
def asL (μ : Sto) : D → Option (List D)
  | .lst ds => some ds
  | .ref k => match μ[k]? with | some (.lst ds) => some ds | _ => none
  | _ => none

section
variable {p : Par} {st : Wd} {H : Hp} {μ : Sto}
theorem asL_ok {d : D} {v : V} {ds : List D} (S : Sim p st μ H) (r : RD p st H d v) (h : asL μ d = some ds) : ∃ a vs, v = .ref a ∧ H a = some (.lst vs) ∧ RDs p st H ds vs := by
  cases d with
  | lst es =>
    simp only [asL, Option.some.injEq] at h
    subst h
    simp only [RD] at r
    obtain ⟨a, vs, e1, h1, h2⟩ := r
    exact ⟨a, vs, e1, h1.2, h2⟩
  | ref k =>
    simp only [asL] at h
    simp only [RD] at r
    obtain ⟨a, e1, h1⟩ := r
    split at h
    · rename_i es he
      cases h
      obtain ⟨ho, h2, r2⟩ := S.cel k a _ h1 he
      obtain ⟨vs, e2, h3⟩ := r2
      subst e2
      exact ⟨a, vs, e1, h2, h3⟩
    · cases h
  | _ => simp [asL] at h
/-- a new list of related items, in both modes -/
theorem fin_l {c : Bool} {ds : List D} {vs : List V} {q : Addr} {Q : VK} (S : Sim p st μ H) (r : RDs p st H ds vs) (hq : H q = none)
    (k : ∀ st' H' u, Ext p st H st' H' → Sim p st' (fin c μ (.l ds)).2 H' → RD p st' H' (fin c μ (.l ds)).1 u → Q u H') : Q (.ref q) (upd H q (.lst vs)) := by
  cases c with
  | false =>
    obtain ⟨a1, a2, a3⟩ := new_frz S hq r
    exact k _ _ _ a1 a2 a3
  | true =>
    obtain ⟨a1, a2, a3⟩ := new_cel S hq r
    exact k _ _ _ a1 a2 a3
end

/-- OpS for operations that make NV -/
def OpN (p : Par) (r : R2) (g : D → D → Sto → Option NV) : Prop := ∀ (c : Bool), OpS p r fun x y μ => (g x y μ).map (fin c μ)
theorem OpS.or {p : Par} {r r' : R2} {f f' : D → D → Sto → Option (D × Sto)} (h : OpS p r f) (h' : OpS p r' f') : OpS p (fun x y H Q => r x y H Q ∨ r' x y H Q) fun x y μ => match f x y μ with | some z => some z | none => f' x y μ := by
  intro st μ μ' H x y z v w Q S rx ry hf k
  cases e : f x y μ with
  | some q =>
    simp only [e] at hf
    exact .inl (h st μ μ' H x y z v w Q S rx ry (by rw [e]; exact hf) k)
  | none =>
    simp only [e] at hf
    exact .inr (h' st μ μ' H x y z v w Q S rx ry hf k)
theorem OpN.or {p : Par} {r r' : R2} {g g' : D → D → Sto → Option NV} (h : OpN p r g) (h' : OpN p r' g') : OpN p (fun x y H Q => r x y H Q ∨ r' x y H Q) fun x y μ => match g x y μ with | some z => some z | none => g' x y μ := by
  intro c st μ μ' H x y z v w Q S rx ry hf k
  cases e : g x y μ with
  | some q =>
    simp only [e] at hf
    exact .inl (h c st μ μ' H x y z v w Q S rx ry (by simp only [e]; exact hf) k)
  | none =>
    simp only [e] at hf
    exact .inr (h' c st μ μ' H x y z v w Q S rx ry hf k)

/-! ### ints -/
def gI (P : Int → Int → Bool) (g : Int → Int → D) : D → D → Sto → Option NV
  | .int i, .int j, _ => if P i j then some (.v (g i j)) else none
  | _, _, _ => none
def dv : D → V
  | .bl b => .bl b
  | .int i => .int i
  | _ => .non
theorem opN_I {p : Par} {C : Int → Int → Prop} {P : Int → Int → Bool} {g : Int → Int → V} {g' : Int → Int → D} (hP : ∀ i j, P i j = true → C i j) (hg : ∀ i j st H, RD p st H (g' i j) (g i j)) : OpN p (rI C g) (gI P g') := by
  intro c st μ μ' H x y z v w Q S rx ry hf k
  cases x with
  | int i =>
    cases y with
    | int j =>
      simp only [gI] at hf
      split at hf
      · rename_i hp
        simp only [Option.map_some, fin_v, Option.some.injEq, Prod.mk.injEq] at hf
        obtain ⟨e1, e2⟩ := hf
        subst e1; subst e2
        simp only [RD] at rx ry
        exact ⟨i, j, rx, ry, hP i j hp, k st H _ Ext.refl S (hg i j st H)⟩
      · cases hf
    | _ => simp [gI] at hf
  | _ => simp [gI] at hf
theorem opN_I0 {p : Par} {g : Int → Int → V} {g' : Int → Int → D} (hg : ∀ i j st H, RD p st H (g' i j) (g i j)) : OpN p (rI0 g) (gI (fun _ _ => true) g') := by
  intro c st μ μ' H x y z v w Q S rx ry hf k
  obtain ⟨i, j, e1, e2, _, q⟩ := opN_I (p := p) (C := fun _ _ => True) (P := fun _ _ => true) (g := g) (g' := g') (fun _ _ _ => trivial) hg c st μ μ' H x y z v w Q S rx ry hf k
  exact ⟨i, j, e1, e2, q⟩

/-! ### texts, lists, tuples: + and * -/
def gAddS : D → D → Sto → Option NV
  | .str a, .str b, _ => if a.length + b.length ≤ big then some (.v (.str (a ++ b))) else none
  | _, _, _ => none
def gAddL : D → D → Sto → Option NV := fun x y μ => match asL μ x, asL μ y with
  | some a, some b => if a.length + b.length ≤ big then some (.l (a ++ b)) else none
  | _, _ => none
def gAddT : D → D → Sto → Option NV
  | .tup a, .tup b, _ => if a.length + b.length ≤ big then some (.v (.tup (a ++ b))) else none
  | _, _, _ => none
theorem mkS_app (a b : List Nat) : mkS a ++ mkS b = mkS (a ++ b) := by
  show (⟨a.toArray ++ b.toArray⟩ : Str) = ⟨(a ++ b).toArray⟩
  simp
theorem mkS_len (a : List Nat) : (mkS a).length = a.length := by
  show (a.toArray).size = a.length
  simp
theorem opN_addS {p : Par} : OpN p (fun x y H Q => ∃ i j, x = .str i ∧ y = .str j ∧ i.length + j.length ≤ sizeLine ∧ Q (.str (i ++ j)) H) gAddS := by
  intro c st μ μ' H x y z v w Q S rx ry hf k
  cases x with
  | str a =>
    cases y with
    | str b =>
      simp only [gAddS] at hf
      split at hf
      · rename_i hp
        simp only [Option.map_some, fin_v, Option.some.injEq, Prod.mk.injEq] at hf
        obtain ⟨e1, e2⟩ := hf
        subst e1; subst e2
        simp only [RD] at rx ry
        refine ⟨_, _, rx.1, ry.1, by rw [mkS_len, mkS_len]; exact sz6 hp, ?_⟩
        rw [mkS_app]
        exact k st H _ Ext.refl S (by simp only [RD]; exact ⟨trivial, by rw [List.length_append]; exact sz6 hp⟩)
      · cases hf
    | _ => simp [gAddS] at hf
  | _ => simp [gAddS] at hf
theorem opN_addL {p : Par} : OpN p rCat gAddL := by
  intro c st μ μ' H x y z v w Q S rx ry hf k
  simp only [gAddL] at hf
  split at hf
  · rename_i a b ha hb
    split at hf
    · rename_i hp
      obtain ⟨l, vs, e1, h1, r1⟩ := asL_ok S rx ha
      obtain ⟨l2, vs2, e2, h2, r2⟩ := asL_ok S ry hb
      simp only [Option.map_some, Option.some.injEq] at hf
      refine ⟨l, l2, vs, vs2, e1, e2, h1, h2, by rw [← r1.length, ← r2.length]; exact sz6 hp, fun q hq => ?_⟩
      refine fin_l (c := c) S (r1.append r2) hq ?_
      rw [hf]
      exact k
    · cases hf
  · cases hf
theorem opN_addT {p : Par} : OpN p (rCatA p.K) gAddT := by
  intro c st μ μ' H x y z v w Q S rx ry hf k
  cases x with
  | tup a =>
    cases y with
    | tup b =>
      simp only [gAddT] at hf
      split at hf
      · rename_i hp
        simp only [Option.map_some, fin_v, Option.some.injEq, Prod.mk.injEq] at hf
        obtain ⟨e1, e2⟩ := hf
        subst e1; subst e2
        have rx' := rx
        have ry' := ry
        simp only [RD] at rx ry
        obtain ⟨l, vs, e1, h1, r1⟩ := rx
        obtain ⟨l2, vs2, e2, h2, r2⟩ := ry
        refine ⟨l, l2, vs, vs2, e1, e2, h1, h2, by rw [← r1.length, ← r2.length]; exact sz6 hp, fun e => ?_, fun _ e => ?_, fun _ _ q hq => ?_⟩
        · have : a = [] := by
            have := r1.length; rw [e] at this; simpa using this
          subst this
          rw [← e2]
          exact k st H _ Ext.refl S ry'
        · have : b = [] := by
            have := r2.length; rw [e] at this; simpa using this
          subst this
          rw [← e1]
          simpa using k st H _ Ext.refl S (by simpa using rx')
        · obtain ⟨a1, a2, a3⟩ := new_tup S hq (r1.append r2)
          exact k _ _ _ a1 a2 a3
      · cases hf
    | _ => simp [gAddT] at hf
  | _ => simp [gAddT] at hf
def gMulL : D → D → Sto → Option NV
  | x, .int k, μ => match asL μ x with
    | some a => if k ≤ 1000000 ∧ -1000000 ≤ k ∧ a.length * k.toNat ≤ big then some (.l (List.replicate k.toNat a).flatten) else none
    | none => none
  | _, _, _ => none
theorem opN_mulL {p : Par} : OpN p rRep gMulL := by
  intro c st μ μ' H x y z v w Q S rx ry hf k
  cases y with
  | int n =>
    simp only [gMulL] at hf
    split at hf
    · rename_i a ha
      split at hf
      · rename_i hp
        obtain ⟨l, vs, e1, h1, r1⟩ := asL_ok S rx ha
        simp only [RD] at ry
        simp only [Option.map_some, Option.some.injEq] at hf
        refine ⟨l, n, vs, e1, ry, h1, by omega, by omega, by rw [← r1.length]; exact sz6 hp.2.2, fun q hq => ?_⟩
        refine fin_l (c := c) S (r1.replicate n.toNat) hq ?_
        rw [hf]
        exact k
      · cases hf
    · cases hf
  | _ => simp [gMulL] at hf

/-! ### ==, != -/
mutual
def toP0 : D → Option PyData
  | .non => some .none
  | .bl b => some (.bool b)
  | .int i => some (.int i)
  | .str l => some (.str (mkS l))
  | .tup ds => (toP0s ds).map .tuple
  | .lst ds => (toP0s ds).map .list
  | .dic _ _ => none
  | .ref _ => none
  | .ro ns => some (.list (ns.map .int))
def toP0s : List D → Option (List PyData)
  | [] => some []
  | d :: ds => match toP0 d, toP0s ds with
    | some a, some b => some (a :: b)
    | _, _ => none
end
def toP (μ : Sto) : D → Option PyData
  | .ref k => match μ[k]? with | some (.lst ds) => (toP0s ds).map .list | _ => none
  | d => toP0 d
section
variable {p : Par} {st : Wd} {H : Hp} {μ : Sto}
theorem dpAll_ints : ∀ ns : List Int, DpAll p.K H (ns.map V.int) (ns.map PyData.int)
  | [] => .nil
  | n :: ns => .cons (.int n) (dpAll_ints ns)
mutual
theorem toP0_ok : ∀ {d : D} {v : V} {x : PyData}, RD p st H d v → toP0 d = some x → Dp p.K H v x
  | .non, _, _, r, h => by simp only [RD] at r; simp only [toP0, Option.some.injEq] at h; subst r; subst h; exact .non
  | .bl b, _, _, r, h => by simp only [RD] at r; simp only [toP0, Option.some.injEq] at h; subst r; subst h; exact .bl b
  | .int b, _, _, r, h => by simp only [RD] at r; simp only [toP0, Option.some.injEq] at h; subst r; subst h; exact .int b
  | .str b, _, _, r, h => by simp only [RD] at r; simp only [toP0, Option.some.injEq] at h; obtain ⟨r, _⟩ := r; subst r; subst h; exact .str _
  | .tup ds, _, _, r, h => by
    simp only [RD] at r
    obtain ⟨a, vs, e1, h1, h2⟩ := r
    subst e1
    simp only [toP0, Option.map_eq_some_iff] at h
    obtain ⟨xs, hx, e⟩ := h
    subst e
    exact .tup h1 (toP0s_ok h2 hx)
  | .lst ds, _, _, r, h => by
    simp only [RD] at r
    obtain ⟨a, vs, e1, h1, h2⟩ := r
    subst e1
    simp only [toP0, Option.map_eq_some_iff] at h
    obtain ⟨xs, hx, e⟩ := h
    subst e
    exact .lst (SqL.of h1.2) (toP0s_ok h2 hx)
  | .dic _ _, _, _, r, h => by simp [toP0] at h
  | .ref _, _, _, r, h => by simp [toP0] at h
  | .ro ns, _, _, r, h => by
    simp only [RD] at r
    obtain ⟨a, e1, h1⟩ := r
    subst e1
    simp only [toP0, Option.some.injEq] at h
    subst h
    exact .lst h1.sq (dpAll_ints ns)
theorem toP0s_ok : ∀ {ds : List D} {vs : List V} {xs : List PyData}, RDs p st H ds vs → toP0s ds = some xs → DpAll p.K H vs xs
  | [], _, _, r, h => by simp only [RDs] at r; simp only [toP0s, Option.some.injEq] at h; subst r; subst h; exact .nil
  | d :: ds, _, _, r, h => by
    obtain ⟨v, w, e1, h1, h2⟩ := r.of_cons
    subst e1
    simp only [toP0s] at h
    split at h
    · rename_i a b ha hb
      cases h
      exact .cons (toP0_ok h1 ha) (toP0s_ok h2 hb)
    · cases h
end
theorem toP_ok {d : D} {v : V} {x : PyData} (S : Sim p st μ H) (r : RD p st H d v) (h : toP μ d = some x) : Dp p.K H v x := by
  cases d with
  | ref k =>
    simp only [toP] at h
    split at h
    · rename_i ds he
      simp only [Option.map_eq_some_iff] at h
      obtain ⟨xs, hx, e⟩ := h
      subst e
      obtain ⟨a, vs, e1, h1, h2⟩ := asL_ok (ds := ds) S r (by simp only [asL, he])
      subst e1
      exact .lst (SqL.of h1) (toP0s_ok h2 hx)
    · cases h
  | _ => exact toP0_ok r (by simpa only [toP] using h)
end
/-- two values that need no look at the heap -/
def scalD : D → D → Option Bool
  | .int i, .int j => some (decide (i = j))
  | .str i, .str j => some (decide (i = j))
  | .bl i, .bl j => some (decide (i = j))
  | .non, .non => some true
  | .non, .int _ => some false | .int _, .non => some false | .non, .bl _ => some false | .bl _, .non => some false | .non, .str _ => some false | .str _, .non => some false
  | .int _, .str _ => some false | .str _, .int _ => some false | .bl _, .str _ => some false | .str _, .bl _ => some false
  | _, _ => none
def gEq (neg : Bool) : D → D → Sto → Option NV := fun x y μ => match scalD x y with
  | some b => some (.v (.bl (if neg then !b else b)))
  | none => match toP μ x, toP μ y with
    | some a, some b => if SeqAt.shaped a = true ∧ SeqAt.shaped b = true then some (.v (.bl (if neg then !PyData.eqv a b else PyData.eqv a b))) else none
    | _, _ => none
theorem mkS_inj {a b : List Nat} : mkS a = mkS b ↔ a = b := by
  constructor
  · intro h
    have : a.toArray = b.toArray := congrArg Str.cps h
    simpa using congrArg Array.toList this
  · intro h; rw [h]
/-- a flat thing's value -/
def flatD : D → Bool
  | .non => true | .bl _ => true | .int _ => true | .str _ => true
  | _ => false
def vf : D → V
  | .bl b => .bl b | .int i => .int i | .str l => .str (mkS l)
  | _ => .non
theorem vf_ok {p : Par} {st : Wd} {H : Hp} {d : D} {v : V} (r : RD p st H d v) (h : flatD d = true) : v = vf d := by
  cases d with
  | non => simp only [RD] at r; exact r
  | bl b => simp only [RD] at r; exact r
  | int i => simp only [RD] at r; exact r
  | str l => simp only [RD] at r; exact r.1
  | _ => simp [flatD] at h
theorem scalD_flat {x y : D} {b : Bool} (h : scalD x y = some b) : flatD x = true ∧ flatD y = true := by
  cases x <;> cases y <;> simp [scalD] at h <;> exact ⟨rfl, rfl⟩
theorem scal_ok {p : Par} {st : Wd} {H : Hp} {x y : D} {v w : V} {b : Bool} (rx : RD p st H x v) (ry : RD p st H y w) (h : scalD x y = some b) : scal v w = true ∧ decide (v = w) = b := by
  obtain ⟨f1, f2⟩ := scalD_flat h
  rw [vf_ok rx f1, vf_ok ry f2]
  cases x <;> cases y <;> simp [scalD] at h <;> subst h <;> refine ⟨rfl, ?_⟩ <;> simp [vf, mkS_inj]
theorem opN_eq {p : Par} : OpN p (fun x y H Q => rEq x y H Q ∨ rEqD p.K x y H Q) (gEq false) := by
  intro c st μ μ' H x y z v w Q S rx ry hf k
  simp only [gEq] at hf
  split at hf
  · rename_i b hb
    simp only [Option.map_some, fin_v, Option.some.injEq, Prod.mk.injEq] at hf
    obtain ⟨e1, e2⟩ := hf
    subst e1; subst e2
    obtain ⟨h1, h2⟩ := scal_ok rx ry hb
    refine .inl ⟨h1, ?_⟩
    rw [h2]
    exact k st H _ Ext.refl S (by simp [RD])
  · split at hf
    · rename_i a b ha hb
      split at hf
      · rename_i hs
        simp only [Option.map_some, fin_v, Option.some.injEq, Prod.mk.injEq] at hf
        obtain ⟨e1, e2⟩ := hf
        subst e1; subst e2
        exact .inr ⟨a, b, toP_ok S rx ha, toP_ok S ry hb, hs.1, hs.2, k st H _ Ext.refl S (by simp [RD])⟩
      · cases hf
    · cases hf
theorem opN_ne {p : Par} : OpN p (fun x y H Q => rNe x y H Q ∨ rNeD p.K x y H Q) (gEq true) := by
  intro c st μ μ' H x y z v w Q S rx ry hf k
  simp only [gEq] at hf
  split at hf
  · rename_i b hb
    simp only [Option.map_some, fin_v, Option.some.injEq, Prod.mk.injEq] at hf
    obtain ⟨e1, e2⟩ := hf
    subst e1; subst e2
    obtain ⟨h1, h2⟩ := scal_ok rx ry hb
    refine .inl ⟨h1, ?_⟩
    rw [h2]
    exact k st H _ Ext.refl S (by simp [RD])
  · split at hf
    · rename_i a b ha hb
      split at hf
      · rename_i hs
        simp only [Option.map_some, fin_v, Option.some.injEq, Prod.mk.injEq] at hf
        obtain ⟨e1, e2⟩ := hf
        subst e1; subst e2
        exact .inr ⟨a, b, toP_ok S rx ha, toP_ok S ry hb, hs.1, hs.2, k st H _ Ext.refl S (by simp [RD])⟩
      · cases hf
    · cases hf

/-! ### in, not in -/
def eqF : D → D → Bool
  | .non, .non => true
  | .bl a, .bl b => a == b
  | .bl a, .int b => (if a then 1 else 0) == b
  | .int a, .bl b => a == (if b then 1 else 0)
  | .int a, .int b => decide (a = b)
  | .str a, .str b => decide (a = b)
  | _, _ => false
def asSeq (μ : Sto) : D → Option (List D)
  | .tup ds => some ds
  | d => asL μ d
theorem asSeq_ok {p : Par} {st : Wd} {H : Hp} {μ : Sto} {d : D} {v : V} {ds : List D} (S : Sim p st μ H) (r : RD p st H d v) (h : asSeq μ d = some ds) : ∃ a vs, v = .ref a ∧ (SqL p.K H a vs ∨ SqT p.K H a vs) ∧ RDs p st H ds vs := by
  cases d with
  | tup es =>
    simp only [asSeq, Option.some.injEq] at h
    subst h
    simp only [RD] at r
    obtain ⟨a, vs, e1, h1, h2⟩ := r
    exact ⟨a, vs, e1, .inr h1, h2⟩
  | _ =>
    obtain ⟨a, vs, e1, h1, h2⟩ := asL_ok S r (by simpa only [asSeq] using h)
    exact ⟨a, vs, e1, .inl (SqL.of h1), h2⟩
theorem flat_ok {p : Par} {st : Wd} {H : Hp} {d : D} {v : V} (r : RD p st H d v) (h : flatD d = true) : flatV v = true := by
  rw [vf_ok r h]
  cases d <;> first | rfl | (simp [flatD] at h)
theorem eqF_ok {p : Par} {st : Wd} {H : Hp} {x y : D} {v w : V} (rx : RD p st H x v) (ry : RD p st H y w) (hx : flatD x = true) (hy : flatD y = true) : eqV v w = eqF x y := by
  rw [vf_ok rx hx, vf_ok ry hy]
  cases x <;> simp [flatD] at hx <;> cases y <;> simp [flatD] at hy <;> first
    | rfl
    | (simp only [eqV, eqF, vf]; rw [Bool.beq_eq_decide_eq]; done)
    | (simp only [eqV, eqF, vf]; rw [Bool.beq_eq_decide_eq]; congr 1; exact propext mkS_inj)
theorem flats_ok {p : Par} {st : Wd} {H : Hp} : ∀ {ds : List D} {vs : List V}, RDs p st H ds vs → ds.all flatD = true → vs.all flatV = true
  | [], _, r, _ => by simp only [RDs] at r; subst r; rfl
  | d :: ds, _, r, h => by
    obtain ⟨v, w, e1, h1, h2⟩ := r.of_cons
    subst e1
    simp only [List.all_cons, Bool.and_eq_true] at h ⊢
    exact ⟨flat_ok h1 h.1, flats_ok h2 h.2⟩
theorem in_ok {p : Par} {st : Wd} {H : Hp} {x : D} {v : V} (rx : RD p st H x v) (hx : flatD x = true) : ∀ {ds : List D} {vs : List V}, RDs p st H ds vs → ds.all flatD = true → inV v vs = ds.any fun y => eqF y x
  | [], _, r, _ => by simp only [RDs] at r; subst r; rfl
  | d :: ds, _, r, h => by
    obtain ⟨u, w, e1, h1, h2⟩ := r.of_cons
    subst e1
    simp only [List.all_cons, Bool.and_eq_true] at h
    have ih := in_ok rx hx h2 h.2
    unfold inV at ih ⊢
    simp only [List.any_cons]
    rw [eqF_ok h1 rx h.1 hx, ih]
def gInQ (neg : Bool) : D → D → Sto → Option NV := fun x y μ => match asSeq μ y with
  | some ds => if flatD x = true ∧ ds.all flatD = true then some (.v (.bl (if neg then !(ds.any fun y => eqF y x) else (ds.any fun y => eqF y x)))) else none
  | none => none
theorem opN_inQ {p : Par} {neg : Bool} : OpN p (rIn p.K neg) (gInQ neg) := by
  intro c st μ μ' H x y z v w Q S rx ry hf k
  simp only [gInQ] at hf
  split at hf
  · rename_i ds hd
    split at hf
    · rename_i hs
      simp only [Option.map_some, fin_v, Option.some.injEq, Prod.mk.injEq] at hf
      obtain ⟨e1, e2⟩ := hf
      subst e1; subst e2
      obtain ⟨a, vs, e1, h1, h2⟩ := asSeq_ok S ry hd
      refine ⟨a, vs, e1, h1, flat_ok rx hs.1, flats_ok h2 hs.2, ?_⟩
      rw [in_ok rx hs.1 h2 hs.2]
      exact k st H _ Ext.refl S (by cases neg <;> simp [RD])
    · cases hf
  · cases hf
def gInS (neg : Bool) : D → D → Sto → Option NV
  | .str [c], .str l, _ => some (.v (.bl (if neg then !decide (c ∈ l) else decide (c ∈ l))))
  | _, _, _ => none
theorem gInS_some {neg : Bool} {x y : D} {μ : Sto} {n : NV} (h : gInS neg x y μ = some n) : ∃ ch l, x = .str [ch] ∧ y = .str l ∧ n = .v (.bl (if neg then !decide (ch ∈ l) else decide (ch ∈ l))) := by
  unfold gInS at h
  split at h
  · cases h; exact ⟨_, _, rfl, rfl, rfl⟩
  · cases h
theorem opN_inS {p : Par} : OpN p (fun x y H Q => ∃ (c : Nat) (z : Str), x = .str ⟨#[c]⟩ ∧ y = .str z ∧ Q (.bl (decide (c ∈ z.cps.toList))) H) (gInS false) := by
  intro c st μ μ' H x y z v w Q S rx ry hf k
  simp only [Option.map_eq_some_iff] at hf
  obtain ⟨n, hn, hf⟩ := hf
  obtain ⟨ch, l, e1, e2, e3⟩ := gInS_some hn
  subst e1; subst e2; subst e3
  ·
    simp only [fin_v, Prod.mk.injEq] at hf
    obtain ⟨e1, e2⟩ := hf
    subst e1; subst e2
    simp only [RD] at rx ry
    refine ⟨ch, mkS l, rx.1, ry.1, ?_⟩
    have e : (mkS l).cps.toList = l := by simp [mkS]
    rw [e]
    exact k st H _ Ext.refl S (by simp [RD])
theorem opN_notinS {p : Par} : OpN p (fun x y H Q => ∃ (c : Nat) (z : Str), x = .str ⟨#[c]⟩ ∧ y = .str z ∧ Q (.bl (!decide (c ∈ z.cps.toList))) H) (gInS true) := by
  intro c st μ μ' H x y z v w Q S rx ry hf k
  simp only [Option.map_eq_some_iff] at hf
  obtain ⟨n, hn, hf⟩ := hf
  obtain ⟨ch, l, e1, e2, e3⟩ := gInS_some hn
  subst e1; subst e2; subst e3
  ·
    simp only [fin_v, Prod.mk.injEq] at hf
    obtain ⟨e1, e2⟩ := hf
    subst e1; subst e2
    simp only [RD] at rx ry
    refine ⟨ch, mkS l, rx.1, ry.1, ?_⟩
    have e : (mkS l).cps.toList = l := by simp [mkS]
    rw [e]
    exact k st H _ Ext.refl S (by simp [RD])
/-! ### is None -/
def isNon : D → Bool
  | .non => true
  | _ => false
def gIsN (neg : Bool) (x y : D) (_ : Sto) : Option NV := if isNon y = true then some (.v (.bl (if neg then !isNon x else isNon x))) else none
theorem isN_ok {p : Par} {st : Wd} {H : Hp} {d : D} {v : V} (r : RD p st H d v) : decide (v = .non) = isNon d := by
  cases d with
  | non => simp only [RD] at r; subst r; rfl
  | bl _ => simp only [RD] at r; subst r; rfl
  | int _ => simp only [RD] at r; subst r; rfl
  | str _ => simp only [RD] at r; obtain ⟨r, _⟩ := r; subst r; rfl
  | tup _ => simp only [RD] at r; obtain ⟨a, vs, e1, _⟩ := r; subst e1; rfl
  | lst _ => simp only [RD] at r; obtain ⟨a, vs, e1, _⟩ := r; subst e1; rfl
  | dic _ _ => simp only [RD] at r; obtain ⟨a, vs, e1, _⟩ := r; subst e1; rfl
  | ref _ => simp only [RD] at r; obtain ⟨a, e1, _⟩ := r; subst e1; rfl
  | ro _ => simp only [RD] at r; obtain ⟨a, e1, _⟩ := r; subst e1; rfl
theorem isN_is {p : Par} {st : Wd} {H : Hp} {d : D} {v : V} (r : RD p st H d v) (h : isNon d = true) : v = .non := by
  have := isN_ok r
  rw [h] at this
  exact of_decide_eq_true this
theorem opN_isN {p : Par} : OpN p (fun x y H Q => y = .non ∧ Q (.bl (decide (x = .non))) H) (gIsN false) := by
  intro c st μ μ' H x y z v w Q S rx ry hf k
  simp only [gIsN] at hf
  split at hf
  · rename_i hy
    simp only [Option.map_some, fin_v, Option.some.injEq, Prod.mk.injEq] at hf
    obtain ⟨e1, e2⟩ := hf
    subst e1; subst e2
    refine ⟨isN_is ry hy, ?_⟩
    rw [isN_ok rx]
    exact k st H _ Ext.refl S (by simp [RD])
  · cases hf
theorem opN_notN {p : Par} : OpN p (fun x y H Q => y = .non ∧ Q (.bl (!decide (x = .non))) H) (gIsN true) := by
  intro c st μ μ' H x y z v w Q S rx ry hf k
  simp only [gIsN] at hf
  split at hf
  · rename_i hy
    simp only [Option.map_some, fin_v, Option.some.injEq, Prod.mk.injEq] at hf
    obtain ⟨e1, e2⟩ := hf
    subst e1; subst e2
    refine ⟨isN_is ry hy, ?_⟩
    rw [isN_ok rx]
    exact k st H _ Ext.refl S (by simp [RD])
  · cases hf
end Ab

set_option maxRecDepth 100000
set_option maxHeartbeats 1000000
namespace Ab
open PySem L2
section
variable {p : Par} {X : Cx} {W : WX} {pos : Pos}

/-! ### truth -/
def truD (μ : Sto) : D → Option Bool
  | .non => some false
  | .bl b => some b
  | .int i => some (i != 0)
  | .str l => some (!l.isEmpty)
  | .tup ds => some (!ds.isEmpty)
  | .lst ds => some (!ds.isEmpty)
  | .ref k => match μ[k]? with | some (.lst ds) => some (!ds.isEmpty) | _ => none
  | _ => none
theorem emp_ok {st : Wd} {H : Hp} {ds : List D} {vs : List V} (r : RDs p st H ds vs) : (!ds.isEmpty) = !vs.isEmpty := by
  have := r.length
  cases ds <;> cases vs <;> simp at this <;> rfl
theorem truD_ok {st : Wd} {H : Hp} {μ : Sto} {d : D} {v : V} {b : Bool} (S : Sim p st μ H) (r : RD p st H d v) (h : truD μ d = some b) : TruV p.K v H b := by
  cases d with
  | non => simp only [RD] at r; subst r; simp only [truD, Option.some.injEq] at h; exact h.symm
  | bl _ => simp only [RD] at r; subst r; simp only [truD, Option.some.injEq] at h; exact h.symm
  | int _ => simp only [RD] at r; subst r; simp only [truD, Option.some.injEq] at h; exact h.symm
  | str l =>
    simp only [RD] at r
    obtain ⟨r, hl⟩ := r
    subst r
    simp only [truD, Option.some.injEq] at h
    refine ⟨by rw [mkS_len]; exact hl, ?_⟩
    rw [mkS_len, ← h]
    cases l <;> simp
    omega
  | tup ds =>
    simp only [RD] at r
    obtain ⟨a, vs, e1, h1, h2⟩ := r
    subst e1
    simp only [truD, Option.some.injEq] at h
    exact .inr (.inl ⟨vs, h1, by rw [← h]; exact emp_ok h2⟩)
  | lst ds =>
    simp only [RD] at r
    obtain ⟨a, vs, e1, h1, h2⟩ := r
    subst e1
    simp only [truD, Option.some.injEq] at h
    exact .inl ⟨vs, SqL.of h1.2, by rw [← h]; exact emp_ok h2⟩
  | ref k =>
    simp only [truD] at h
    split at h
    · rename_i ds he
      cases h
      obtain ⟨a, vs, e1, h1, h2⟩ := asL_ok (ds := ds) S r (by simp only [asL, he])
      subst e1
      exact .inl ⟨vs, SqL.of h1, emp_ok h2⟩
    · cases h
  | _ => simp [truD] at h
def tru (m : M D) : M Bool := bnd m fun d => opS fun μ => (truD μ d).map fun b => (b, μ)
theorem at_tru {e : Expr} {m : M D} (h : AE p X W e m) (he : ∀ whole, isTrue e X.env whole = (do let v ← whole; standAt e.pos; holding [v] (truthy v)) := by intro _; rfl) : AT p X W e (tru m) := by
  refine ⟨h.1, PT.imp (pt_truth h.2 he) fun σ H Q ⟨Γ, μ, st, S, L, P⟩ => ?_⟩
  refine tG_bndE (rel := RD p) S L P fun d v μ1 st1 H1 e1 S1 L1 r1 P1 => ?_
  obtain ⟨b, μ2, hf, k⟩ := P1.opS
  simp only [Option.map_eq_some_iff, Prod.mk.injEq] at hf
  obtain ⟨c, hc, e2, e3⟩ := hf
  subst e2; subst e3
  rw [h.1]
  exact ⟨c, truD_ok S1 r1 hc, k st1 H1 c Ext.refl S1 rfl⟩

/-! ### chains a <= b <= c of ints -/
def chK (g : D → D → Sto → Option (D × Sto)) (y : D) (c : M D) : D → M D
  | .bl true => bnd c fun w => opS (g y w)
  | .bl false => ret (.bl false)
  | _ => fun _ _ => none
def eChain (f g : D → D → Sto → Option (D × Sto)) (a b c : M D) : M D := bnd a fun x => bnd b fun y => bnd (opS (f x y)) (chK g y c)
theorem ae_chain {a b c : Expr} {op op' : CmpOp} {r r' : R2} {f g : D → D → Sto → Option (D × Sto)} {ma mb mc : M D} (ho : OpR X (compareOp op) r) (ho' : OpR X (compareOp op') r') (hr : OpS p r f) (hr' : OpS p r' g)
    (ha : AE p X W a ma) (hb : AE p X W b mb) (hc : AE p X W c mc) (hm : lastMarks [op, op'] [b, c] = false := by rfl) : AE p X W (.Compare a [op, op'] [b, c] pos) (eChain f g ma mb mc) := by
  refine ⟨ha.1, PE.imp (pe_chain ho ho' ha.2 hb.2 hc.2 hm) fun σ H Q ⟨Γ, μ, st, S, L, P⟩ => ?_⟩
  refine tG_bndE (rel := RD p) S L P fun x v μ1 st1 H1 e1 S1 L1 r1 P1 => ?_
  refine tG_bndE (rel := RD p) S1 L1 P1 fun y w μ2 st2 H2 e2 S2 L2 r2 P2 => ?_
  unfold bnd Ab.opS at P2
  cases hf : f x y μ2 with
  | none => rw [hf] at P2; exact P2.elim
  | some q =>
    obtain ⟨z, μ3⟩ := q
    rw [hf] at P2
    dsimp only at P2
    refine hr st2 μ2 μ3 H2 x y z v w _ S2 (r1.mono e2) r2 hf fun st3 H3 u e3 S3 r3 => ?_
    have P3 := P2.ext e3
    cases z with
    | bl k =>
      simp only [RD] at r3
      refine ⟨k, r3, ?_⟩
      cases k with
      | false => exact Post.ret P3 S3 (by simp [RD])
      | true =>
        rw [if_pos rfl]
        refine tG_bndE (rel := RD p) S3 ((L2).mono e3) P3 fun w' v' μ4 st4 H4 e4 S4 L4 r4 P4 => ?_
        obtain ⟨z', μ5, hf', k'⟩ := P4.opS
        exact hr' st4 μ4 μ5 H4 y w' z' w v' Q S4 (r2.mono (e3.trans e4)) r4 hf' k'
    | _ => exact P3.elim

/-! ### built-in functions by values -/
def CaN (p : Par) (r : List V → Hp → VK → Prop) (g : List D → Sto → Option NV) : Prop := ∀ (c : Bool) (st : Wd) (μ μ' : Sto) (H : Hp) (xs : List D) (z : D) (vs : List V) (Q : VK), Sim p st μ H → RDs p st H xs vs → (g xs μ).map (fin c μ) = some (z, μ') →
  (∀ st' H' u, Ext p st H st' H' → Sim p st' μ' H' → RD p st' H' z u → Q u H') → r vs H Q
def eCB (c : Bool) (g : List D → Sto → Option NV) (m : M (List D)) : M D := bnd m fun xs => opS fun μ => (g xs μ).map (fin c μ)
theorem CaN.or {r r' : List V → Hp → VK → Prop} {g g' : List D → Sto → Option NV} (h : CaN p r g) (h' : CaN p r' g') : CaN p (fun xs H Q => r xs H Q ∨ r' xs H Q) fun xs μ => match g xs μ with | some z => some z | none => g' xs μ := by
  intro c st μ μ' H xs z vs Q S rx hf k
  cases e : g xs μ with
  | some q =>
    simp only [e] at hf
    exact .inl (h c st μ μ' H xs z vs Q S rx (by rw [e]; exact hf) k)
  | none =>
    simp only [e] at hf
    exact .inr (h' c st μ μ' H xs z vs Q S rx hf k)
theorem tCB_of {r : List V → Hp → VK → Prop} {g : List D → Sto → Option NV} {m : M (List D)} (c : Bool) (hr : CaN p r g) (σ : L2.St) (H : Hp) (Q : VK) (h : tA p W (eCB c g m) σ H Q) : tCB r (tL p W m) σ H Q := by
  obtain ⟨Γ, μ, st, S, L, P⟩ := h
  refine tG_bndE (rel := RDs p) S L P fun xs vs μ1 st1 H1 e1 S1 L1 r1 P1 => ?_
  obtain ⟨z, μ3, hf, k⟩ := P1.opS
  exact hr c st1 μ1 μ3 H1 xs z vs Q S1 r1 hf k
variable {e : Expr} {es : List Expr} {x : Str} {pp : Pos}
theorem ae_callB {id : String} {r : List V → Hp → VK → Prop} {g : List D → Sto → Option NV} {m : M (List D)} (c : Bool) (hc : CallR X (.builtin id) r) (hr : CaN p r g) (hg : Gl X x) (hm : X.mg x = none) (hv : bootBuiltins x = some (.builtin id)) (ha : AA p X W (e :: es) m)
    (hn : x ≠ "__name__" := by decide) (hd : (x == ("__debug__" : Str)) = false := by decide) (he : starEach (e :: es) X.env = (false, eval e X.env) :: starEach es X.env := by rfl) (hpl : (backTo pos (starEach es X.env)).any (·.1) = false := by rfl) :
    AE p X W (.Call (.Name x pp) (e :: es) [] pos) (eCB c g m) := ⟨ha.1, PE.imp (pe_callB hc hg hm hv ha.2 (hn := hn) (hdb := hd) (he := he) (hpl := hpl)) fun σ H Q h => tCB_of c hr σ H Q h⟩
theorem ae_callTy {T : String} {r : List V → Hp → VK → Prop} {g : List D → Sto → Option NV} {m : M (List D)} (c : Bool) (hc : CallR X (.type T) r) (hr : CaN p r g) (hg : Gl X x) (hm : X.mg x = none) (hv : bootBuiltins x = some (.type T)) (ha : AA p X W (e :: es) m)
    (hn : x ≠ "__name__" := by decide) (hd : (x == ("__debug__" : Str)) = false := by decide) (he : starEach (e :: es) X.env = (false, eval e X.env) :: starEach es X.env := by rfl) (hpl : (backTo pos (starEach es X.env)).any (·.1) = false := by rfl) :
    AE p X W (.Call (.Name x pp) (e :: es) [] pos) (eCB c g m) := ⟨ha.1, PE.imp (pe_callTy hc hg hm hv ha.2 (hn := hn) (hdb := hd) (he := he) (hpl := hpl)) fun σ H Q h => tCB_of c hr σ H Q h⟩
/-- one argument that is flat, or two ints -/
theorem rd1 {st : Wd} {H : Hp} {d : D} {vs : List V} (r : RDs p st H [d] vs) : ∃ v, vs = [v] ∧ RD p st H d v := by
  obtain ⟨v, w, e1, h1, h2⟩ := r.of_cons
  simp only [RDs] at h2
  subst h2
  exact ⟨v, e1, h1⟩
theorem rd2 {st : Wd} {H : Hp} {d e : D} {vs : List V} (r : RDs p st H [d, e] vs) : ∃ v w, vs = [v, w] ∧ RD p st H d v ∧ RD p st H e w := by
  obtain ⟨v, w, e1, h1, h2⟩ := r.of_cons
  obtain ⟨u, e2, h3⟩ := rd1 h2
  subst e2
  exact ⟨v, u, e1, h1, h3⟩
def g1I (f : Int → D) : List D → Sto → Option NV
  | [.int i], _ => some (.v (f i))
  | _, _ => none
theorem g1I_some {f : Int → D} {xs : List D} {μ : Sto} {n : NV} (h : g1I f xs μ = some n) : ∃ i, xs = [.int i] ∧ n = .v (f i) := by
  unfold g1I at h
  split at h
  · cases h; exact ⟨_, rfl, rfl⟩
  · cases h
theorem caN_abs : CaN p (fun xs H Q => ∃ i, xs = [.int i] ∧ Q (.int (if i < 0 then -i else i)) H) (g1I fun i => .int (if i < 0 then -i else i)) := by
  intro c st μ μ' H xs z vs Q S rx hf k
  simp only [Option.map_eq_some_iff] at hf
  obtain ⟨n, hn, hf⟩ := hf
  obtain ⟨i, e1, e2⟩ := g1I_some hn
  subst e1; subst e2
  simp only [fin_v, Prod.mk.injEq] at hf
  obtain ⟨e1, e2⟩ := hf
  subst e1; subst e2
  obtain ⟨v, e1, h1⟩ := rd1 rx
  simp only [RD] at h1
  subst h1
  exact ⟨i, e1, k st H _ Ext.refl S (by simp [RD])⟩
def g2I (f : Int → Int → Int) : List D → Sto → Option NV
  | [.int i, .int j], _ => some (.v (.int (f i j)))
  | _, _ => none
theorem g2I_some {f : Int → Int → Int} {xs : List D} {μ : Sto} {n : NV} (h : g2I f xs μ = some n) : ∃ i j, xs = [.int i, .int j] ∧ n = .v (.int (f i j)) := by
  unfold g2I at h
  split at h
  · cases h; exact ⟨_, _, rfl, rfl⟩
  · cases h
theorem caN_2I {f : Int → Int → Int} : CaN p (fun xs H Q => ∃ i j, xs = [.int i, .int j] ∧ Q (.int (f i j)) H) (g2I f) := by
  intro c st μ μ' H xs z vs Q S rx hf k
  simp only [Option.map_eq_some_iff] at hf
  obtain ⟨n, hn, hf⟩ := hf
  obtain ⟨i, j, e1, e2⟩ := g2I_some hn
  subst e1; subst e2
  simp only [fin_v, Prod.mk.injEq] at hf
  obtain ⟨e1, e2⟩ := hf
  subst e1; subst e2
  obtain ⟨v, w, e1, h1, h2⟩ := rd2 rx
  simp only [RD] at h1 h2
  subst h1; subst h2
  exact ⟨i, j, e1, k st H _ Ext.refl S (by simp [RD])⟩
def gInt : List D → Sto → Option NV
  | [.int i], _ => some (.v (.int i))
  | [.bl b], _ => some (.v (.int (if b then 1 else 0)))
  | _, _ => none
theorem caN_int : CaN p (fun xs H Q => (∃ i, xs = [.int i] ∧ Q (.int i) H) ∨ ∃ k, xs = [.bl k] ∧ Q (.int (if k then 1 else 0)) H) gInt := by
  intro c st μ μ' H xs z vs Q S rx hf k
  simp only [Option.map_eq_some_iff] at hf
  obtain ⟨n, hn, hf⟩ := hf
  unfold gInt at hn
  split at hn
  · cases hn
    simp only [fin_v, Prod.mk.injEq] at hf
    obtain ⟨e1, e2⟩ := hf
    subst e1; subst e2
    obtain ⟨v, e1, h1⟩ := rd1 rx
    simp only [RD] at h1
    subst h1
    exact .inl ⟨_, e1, k st H _ Ext.refl S (by simp [RD])⟩
  · cases hn
    simp only [fin_v, Prod.mk.injEq] at hf
    obtain ⟨e1, e2⟩ := hf
    subst e1; subst e2
    obtain ⟨v, e1, h1⟩ := rd1 rx
    simp only [RD] at h1
    subst h1
    exact .inr ⟨_, e1, k st H _ Ext.refl S (by simp [RD])⟩
  · cases hn
/-- len -/
def lenD (μ : Sto) : D → Option Nat
  | .str l => some l.length
  | .tup ds => some ds.length
  | .lst ds => some ds.length
  | .ro ns => some ns.length
  | .ref k => match μ[k]? with | some (.lst ds) => some ds.length | _ => none
  | _ => none
def gLen : List D → Sto → Option NV
  | [d], μ => (lenD μ d).map fun (n : Nat) => NV.v (.int (n : Int))
  | _, _ => none
theorem lenD_ok {st : Wd} {H : Hp} {μ : Sto} {d : D} {v : V} {n : Nat} (S : Sim p st μ H) (r : RD p st H d v) (h : lenD μ d = some n) : LenV p.K v H n := by
  cases d with
  | str l =>
    simp only [RD] at r
    obtain ⟨r, hl⟩ := r
    subst r
    simp only [lenD, Option.some.injEq] at h
    exact ⟨by rw [mkS_len]; exact hl, by rw [mkS_len]; exact h.symm⟩
  | tup ds =>
    simp only [RD] at r
    obtain ⟨a, vs, e1, h1, h2⟩ := r
    subst e1
    simp only [lenD, Option.some.injEq] at h
    exact .inr ⟨vs, h1, by rw [← h]; exact h2.length⟩
  | lst ds =>
    simp only [RD] at r
    obtain ⟨a, vs, e1, h1, h2⟩ := r
    subst e1
    simp only [lenD, Option.some.injEq] at h
    exact .inl ⟨vs, SqL.of h1.2, by rw [← h]; exact h2.length⟩
  | ro ns =>
    simp only [RD] at r
    obtain ⟨a, e1, h1⟩ := r
    subst e1
    simp only [lenD, Option.some.injEq] at h
    exact .inl ⟨_, h1.sq, by rw [← h]; simp⟩
  | ref k =>
    simp only [lenD] at h
    split at h
    · rename_i ds he
      cases h
      obtain ⟨a, vs, e1, h1, h2⟩ := asL_ok (ds := ds) S r (by simp only [asL, he])
      subst e1
      exact .inl ⟨vs, SqL.of h1, h2.length⟩
    · cases h
  | _ => simp [lenD] at h
theorem caN_len (hK : X.K = p.K) : CaN p (fun xs H Q => ∃ x n, xs = [x] ∧ LenV X.K x H n ∧ Q (.int n) H) gLen := by
  intro c st μ μ' H xs z vs Q S rx hf k
  simp only [Option.map_eq_some_iff] at hf
  obtain ⟨n, hn, hf⟩ := hf
  unfold gLen at hn
  split at hn
  · simp only [Option.map_eq_some_iff] at hn
    obtain ⟨m, hm, e⟩ := hn
    subst e
    simp only [fin_v, Prod.mk.injEq] at hf
    obtain ⟨e1, e2⟩ := hf
    subst e1; subst e2
    obtain ⟨v, e1, h1⟩ := rd1 rx
    exact ⟨v, m, e1, by rw [hK]; exact lenD_ok S h1 hm, k st H _ Ext.refl S (by simp [RD])⟩
  · cases hn
/-- list(list | tuple) -/
def gList : List D → Sto → Option NV
  | [d], μ => (asSeq μ d).map .l
  | _, _ => none
theorem caN_list (hK : X.K = p.K) : CaN p (fun xs H Q => ∃ p ys, xs = [.ref p] ∧ (SqL X.K H p ys ∨ SqT X.K H p ys) ∧ ∀ l, H l = none → Q (.ref l) (upd H l (.lst ys))) gList := by
  intro c st μ μ' H xs z vs Q S rx hf k
  simp only [Option.map_eq_some_iff] at hf
  obtain ⟨n, hn, hf⟩ := hf
  unfold gList at hn
  split at hn
  · simp only [Option.map_eq_some_iff] at hn
    obtain ⟨ds, hm, e⟩ := hn
    subst e
    obtain ⟨v, e1, h1⟩ := rd1 rx
    obtain ⟨a, ws, e2, h2, h3⟩ := asSeq_ok S h1 hm
    subst e2
    refine ⟨a, ws, e1, by rw [hK]; exact h2, fun q hq => ?_⟩
    refine fin_l (c := c) S h3 hq ?_
    rw [hf]
    exact k
  · cases hn
/-- sum of ints, any and all of bools -/
def asInts : List D → Option (List Int)
  | [] => some []
  | .int i :: r => (asInts r).map (i :: ·)
  | _ :: _ => none
def asBls : List D → Option (List Bool)
  | [] => some []
  | .bl i :: r => (asBls r).map (i :: ·)
  | _ :: _ => none
theorem asInts_ok {st : Wd} {H : Hp} : ∀ {ds : List D} {vs : List V} {ns : List Int}, RDs p st H ds vs → asInts ds = some ns → vs = ns.map V.int
  | [], _, _, r, h => by simp only [RDs] at r; simp only [asInts, Option.some.injEq] at h; subst r; subst h; rfl
  | .int i :: ds, _, _, r, h => by
    obtain ⟨v, w, e1, h1, h2⟩ := r.of_cons
    simp only [asInts, Option.map_eq_some_iff] at h
    obtain ⟨ns, hn, e⟩ := h
    simp only [RD] at h1
    subst e; subst e1; subst h1
    rw [asInts_ok h2 hn]; rfl
  | .non :: _, _, _, _, h => by simp [asInts] at h
  | .bl _ :: _, _, _, _, h => by simp [asInts] at h
  | .str _ :: _, _, _, _, h => by simp [asInts] at h
  | .tup _ :: _, _, _, _, h => by simp [asInts] at h
  | .lst _ :: _, _, _, _, h => by simp [asInts] at h
  | .dic _ _ :: _, _, _, _, h => by simp [asInts] at h
  | .ref _ :: _, _, _, _, h => by simp [asInts] at h
  | .ro _ :: _, _, _, _, h => by simp [asInts] at h
theorem asBls_ok {st : Wd} {H : Hp} : ∀ {ds : List D} {vs : List V} {ns : List Bool}, RDs p st H ds vs → asBls ds = some ns → vs = ns.map V.bl
  | [], _, _, r, h => by simp only [RDs] at r; simp only [asBls, Option.some.injEq] at h; subst r; subst h; rfl
  | .bl i :: ds, _, _, r, h => by
    obtain ⟨v, w, e1, h1, h2⟩ := r.of_cons
    simp only [asBls, Option.map_eq_some_iff] at h
    obtain ⟨ns, hn, e⟩ := h
    simp only [RD] at h1
    subst e; subst e1; subst h1
    rw [asBls_ok h2 hn]; rfl
  | .non :: _, _, _, _, h => by simp [asBls] at h
  | .int _ :: _, _, _, _, h => by simp [asBls] at h
  | .str _ :: _, _, _, _, h => by simp [asBls] at h
  | .tup _ :: _, _, _, _, h => by simp [asBls] at h
  | .lst _ :: _, _, _, _, h => by simp [asBls] at h
  | .dic _ _ :: _, _, _, _, h => by simp [asBls] at h
  | .ref _ :: _, _, _, _, h => by simp [asBls] at h
  | .ro _ :: _, _, _, _, h => by simp [asBls] at h
def gSum : List D → Sto → Option NV
  | [d], μ => match asL μ d with | some ds => (asInts ds).map fun ns => .v (.int ns.sum) | none => none
  | _, _ => none
def gBls (f : List Bool → Bool) : List D → Sto → Option NV
  | [d], μ => match asL μ d with | some ds => (asBls ds).map fun ns => .v (.bl (f ns)) | none => none
  | _, _ => none
theorem caN_sum (hK : X.K = p.K) : CaN p (rSum X.K) gSum := by
  intro c st μ μ' H xs z vs Q S rx hf k
  simp only [Option.map_eq_some_iff] at hf
  obtain ⟨n, hn, hf⟩ := hf
  unfold gSum at hn
  split at hn
  · split at hn
    · rename_i ds hd
      simp only [Option.map_eq_some_iff] at hn
      obtain ⟨ns, hm, e⟩ := hn
      subst e
      simp only [fin_v, Prod.mk.injEq] at hf
      obtain ⟨e1, e2⟩ := hf
      subst e1; subst e2
      obtain ⟨v, e1, h1⟩ := rd1 rx
      obtain ⟨a, ws, e2, h2, h3⟩ := asL_ok S h1 hd
      subst e2
      rw [asInts_ok h3 hm] at h2
      exact ⟨a, ns, e1, SqL.of h2, k st H _ Ext.refl S (by simp [RD])⟩
    · cases hn
  · cases hn
theorem caN_any (hK : X.K = p.K) : CaN p (rAny X.K) (gBls fun bs => bs.any id) := by
  intro c st μ μ' H xs z vs Q S rx hf k
  simp only [Option.map_eq_some_iff] at hf
  obtain ⟨n, hn, hf⟩ := hf
  unfold gBls at hn
  split at hn
  · split at hn
    · rename_i ds hd
      simp only [Option.map_eq_some_iff] at hn
      obtain ⟨ns, hm, e⟩ := hn
      subst e
      simp only [fin_v, Prod.mk.injEq] at hf
      obtain ⟨e1, e2⟩ := hf
      subst e1; subst e2
      obtain ⟨v, e1, h1⟩ := rd1 rx
      obtain ⟨a, ws, e2, h2, h3⟩ := asL_ok S h1 hd
      subst e2
      rw [asBls_ok h3 hm] at h2
      exact ⟨a, ns, e1, SqL.of h2, k st H _ Ext.refl S (by simp [RD])⟩
    · cases hn
  · cases hn
theorem caN_all (hK : X.K = p.K) : CaN p (rAll X.K) (gBls fun bs => bs.all id) := by
  intro c st μ μ' H xs z vs Q S rx hf k
  simp only [Option.map_eq_some_iff] at hf
  obtain ⟨n, hn, hf⟩ := hf
  unfold gBls at hn
  split at hn
  · split at hn
    · rename_i ds hd
      simp only [Option.map_eq_some_iff] at hn
      obtain ⟨ns, hm, e⟩ := hn
      subst e
      simp only [fin_v, Prod.mk.injEq] at hf
      obtain ⟨e1, e2⟩ := hf
      subst e1; subst e2
      obtain ⟨v, e1, h1⟩ := rd1 rx
      obtain ⟨a, ws, e2, h2, h3⟩ := asL_ok S h1 hd
      subst e2
      rw [asBls_ok h3 hm] at h2
      exact ⟨a, ns, e1, SqL.of h2, k st H _ Ext.refl S (by simp [RD])⟩
    · cases hn
  · cases hn
end
end Ab

set_option maxRecDepth 100000
set_option maxHeartbeats 1000000
namespace Ab
open PySem L2
section
variable {p : Par} {X : Cx} {W : WX} {pos : Pos}

/-! ### methods of built-in types -/
/-- g tells the value and the store behind x.m(xs) -/
def MeN (p : Par) (r : V → List V → Hp → VK → Prop) (g : D → List D → Sto → Option (D × Sto)) : Prop := ∀ (st : Wd) (μ μ' : Sto) (H : Hp) (x z : D) (xs : List D) (v : V) (vs : List V) (Q : VK), Sim p st μ H → RD p st H x v → RDs p st H xs vs → g x xs μ = some (z, μ') →
  (∀ st' H' u, Ext p st H st' H' → Sim p st' μ' H' → RD p st' H' z u → Q u H') → r v vs H Q
def isLs (x : D) : M Unit := fun _ μ => match asL μ x with | some _ => some (.ok () μ) | none => none
def isSt (x : D) : M Unit := fun _ μ => match x with | .str _ => some (.ok () μ) | _ => none
def eMe (chk : D → M Unit) (g : D → List D → Sto → Option (D × Sto)) (o : M D) (a : M (List D)) : M D := bnd o fun x => bnd (chk x) fun _ => bnd a fun xs => opS (g x xs)
theorem isLs_ok {x : D} {v : V} {Γ : Env'} {μ : Sto} {st : Wd} {σ : L2.St} {H : Hp} {α β : Type} {rel : Wd → Hp → α → β → Prop} {k : Unit → M α} {Q : β → Hp → Prop} (S : Sim p st μ H) (r : RD p st H x v) (P : Post p W rel st σ H (bnd (isLs x) k Γ μ) Q) :
    tyV p.K "list" v H ∧ Post p W rel st σ H (k () Γ μ) Q := by
  unfold bnd isLs at P
  cases hl : asL μ x with
  | none => rw [hl] at P; exact P.elim
  | some ds =>
    rw [hl] at P
    obtain ⟨a, vs, e1, h1, h2⟩ := asL_ok S r hl
    subst e1
    exact ⟨.inl ⟨rfl, vs, SqL.of h1⟩, P⟩
theorem isSt_ok {x : D} {v : V} {Γ : Env'} {μ : Sto} {st : Wd} {σ : L2.St} {H : Hp} {α β : Type} {rel : Wd → Hp → α → β → Prop} {k : Unit → M α} {Q : β → Hp → Prop} (S : Sim p st μ H) (r : RD p st H x v) (P : Post p W rel st σ H (bnd (isSt x) k Γ μ) Q) :
    (∃ a, v = .str a) ∧ Post p W rel st σ H (k () Γ μ) Q := by
  unfold bnd isSt at P
  cases x with
  | str l => simp only [RD] at r; exact ⟨⟨_, r.1⟩, P⟩
  | _ => exact P.elim
variable {o e : Expr} {es : List Expr} {name : Str} {apos cpos : Pos} {id : String} {r : V → List V → Hp → VK → Prop} {g : D → List D → Sto → Option (D × Sto)} {mo me : M D} {ma : M (List D)}
theorem ae_bmL (slot : Slot "list" name id) (hty : typeOf (.builtin id) = pure (.type "method_descriptor")) (hm : MtR X id r) (hr : MeN p r g) (ho : AE p X W o mo) (ha : AA p X W (e :: es) ma)
    (hbase : attributeBase o name X.env (eval o X.env) = eval o X.env := by rfl)
    (hfew : ((backTo cpos (starEach (e :: es) X.env)).all (fun x => !x.1) && (backToKw cpos (keywordEach [] X.env)).all (fun x => x.1.isSome)
      && decide ((e :: es).length + ([] : List Keyword).length + (if ([] : List Keyword).isEmpty then 0 else 1) < 30)) = true := by rfl)
    (hline : (apos.endLine == cpos.line) = true := by rfl) (hs : starEach (e :: es) X.env = (false, eval e X.env) :: starEach es X.env := by rfl) (hplain : (backTo cpos (starEach es X.env)).any (·.1) = false := by rfl) :
    AE p X W (.Call (.Attribute o name apos) (e :: es) [] cpos) (eMe isLs g mo ma) := by
  refine ⟨ho.1, PE.imp (pe_bm PySem.F.plainAttrs_list slot hty hm ho.2 ha.2 hbase hfew hline hs hplain) fun σ H Q ⟨Γ, μ, st, S, L, P⟩ => ?_⟩
  refine tG_bndE (rel := RD p) S L P fun x v μ1 st1 H1 e1 S1 L1 r1 P1 => ?_
  obtain ⟨t1, P1⟩ := isLs_ok S1 r1 P1
  rw [ho.1]
  refine ⟨t1, tG_bndE (rel := RDs p) S1 L1 P1 fun xs vs μ2 st2 H2 e2 S2 L2 r2 P2 => ?_⟩
  obtain ⟨z, μ3, hf, k⟩ := P2.opS
  exact hr st2 μ2 μ3 H2 x z xs v vs Q S2 (r1.mono e2) r2 hf k
theorem ae_bmL0 (slot : Slot "list" name id) (hty : typeOf (.builtin id) = pure (.type "method_descriptor")) (hm : MtR X id r) (hr : MeN p r g) (ho : AE p X W o mo)
    (hbase : attributeBase o name X.env (eval o X.env) = eval o X.env := by rfl) (hline : (apos.endLine == cpos.line) = true := by rfl) :
    AE p X W (.Call (.Attribute o name apos) [] [] cpos) (eMe isLs g mo aNil) := by
  refine ⟨ho.1, PE.imp (pe_bm0 PySem.F.plainAttrs_list slot hty hm ho.2 hbase hline) fun σ H Q ⟨Γ, μ, st, S, L, P⟩ => ?_⟩
  refine tG_bndE (rel := RD p) S L P fun x v μ1 st1 H1 e1 S1 L1 r1 P1 => ?_
  obtain ⟨t1, P1⟩ := isLs_ok S1 r1 P1
  rw [ho.1]
  refine ⟨t1, ?_⟩
  obtain ⟨z, μ3, hf, k⟩ := Post.opS (f := g x []) (Γ := Γ) P1
  exact hr st1 μ1 μ3 H1 x z [] v [] Q S1 r1 RDs.nil hf k
theorem ae_m1 (slot : Slot "str" name id) (hty : typeOf (.builtin id) = pure (.type "method_descriptor")) (hm : MtR X id r) (hr : MeN p r g) (ho : AE p X W o mo) (he : AE p X W e me)
    (hs : starEach [e] X.env = [(false, eval e X.env)] := by rfl) (hbase : attributeBase o name X.env (eval o X.env) = eval o X.env := by rfl) (hline : (apos.endLine == cpos.line) = true := by rfl) :
    AE p X W (.Call (.Attribute o name apos) [e] [] cpos) (eMe isSt g mo (bnd me fun x => ret [x])) := by
  refine ⟨ho.1, PE.imp (pe_m1 slot hty hm ho.2 he.2 hs hbase hline) fun σ H Q ⟨Γ, μ, st, S, L, P⟩ => ?_⟩
  refine tG_bndE (rel := RD p) S L P fun x v μ1 st1 H1 e1 S1 L1 r1 P1 => ?_
  obtain ⟨t1, P1⟩ := isSt_ok S1 r1 P1
  refine ⟨t1, ?_⟩
  have P1' : Post p W (RD p) st1 σ H1 (bnd me (fun y => opS (g x [y])) Γ μ1) Q := by
    refine cast ?_ P1
    congr 1
    unfold bnd
    cases me Γ μ1 with
    | none => rfl
    | some r => cases r <;> rfl
  refine tG_bndE (rel := RD p) S1 L1 P1' fun y w μ2 st2 H2 e2 S2 L2 r2 P2 => ?_
  obtain ⟨z, μ3, hf, k⟩ := P2.opS
  exact hr st2 μ2 μ3 H2 x z [y] v [w] Q S2 (r1.mono e2) (RDs.one r2) hf k
/-- append -/
def gAppend (x : D) (xs : List D) (μ : Sto) : Option (D × Sto) := match x, xs with
  | .ref k, [y] => match μ[k]? with
    | some (.lst ds) => if ds.length < big then some (.non, μ.set k (.lst (ds ++ [y]))) else none
    | _ => none
  | _, _ => none
theorem write_lst {st : Wd} {μ : Sto} {H : Hp} {k : Nat} {a : Addr} {ds ds' : List D} {vs vs' : List V} (S : Sim p st μ H) (hk : st.φ[k]? = some a) (h0 : μ[k]? = some (.lst ds)) (ha : H a = some (.lst vs)) (r : RDs p st H ds' vs') :
    Ext p st H st (upd H a (.lst vs')) ∧ Sim p st (μ.set k (.lst ds')) (upd H a (.lst vs')) := by
  have E : Ext p st H st (upd H a (.lst vs')) := Ext.write S hk h0 (by simp) ha (by simp) (by simp) (by simp)
  exact ⟨E, S.write hk h0 (by simp) ha (by simp) (by simp) (by simp) ⟨vs', rfl, r.mono E⟩⟩
theorem cell_lst {st : Wd} {μ : Sto} {H : Hp} {k : Nat} {v : V} {ds : List D} (S : Sim p st μ H) (r : RD p st H (.ref k) v) (h0 : μ[k]? = some (.lst ds)) : ∃ a vs, v = .ref a ∧ st.φ[k]? = some a ∧ H a = some (.lst vs) ∧ RDs p st H ds vs := by
  simp only [RD] at r
  obtain ⟨a, e1, h1⟩ := r
  obtain ⟨ho, h2, r2⟩ := S.cel k a _ h1 h0
  obtain ⟨vs, e2, h3⟩ := r2
  subst e2
  exact ⟨a, vs, e1, h1, h2, h3⟩
theorem meN_append : MeN p rAppend gAppend := by
  intro st μ μ' H x z xs v vs Q S rx rs hf k
  unfold gAppend at hf
  split at hf
  · split at hf
    · rename_i kk y ds he
      split at hf
      · rename_i hl
        simp only [Option.some.injEq, Prod.mk.injEq] at hf
        obtain ⟨e1, e2⟩ := hf
        subst e1; subst e2
        obtain ⟨a, ws, e1, hk, ha, r1⟩ := cell_lst S rx he
        obtain ⟨w, e2, hw⟩ := rd1 rs
        subst e1; subst e2
        obtain ⟨E, S2⟩ := write_lst S hk he ha (r1.append (RDs.one hw))
        exact ⟨a, ws, w, rfl, rfl, ha, by rw [← r1.length]; exact Nat.lt_of_lt_of_le hl (by decide), k st _ _ E S2 (by simp [RD])⟩
      · cases hf
    · cases hf
  · cases hf
/-- extend by another list -/
def gExtend (x : D) (xs : List D) (μ : Sto) : Option (D × Sto) := match x, xs with
  | .ref k, [y] => match μ[k]?, asL μ y with
    | some (.lst ds), some es => if ds.length + es.length ≤ big then some (.non, μ.set k (.lst (ds ++ es))) else none
    | _, _ => none
  | _, _ => none
theorem meN_extend : MeN p rExtend gExtend := by
  intro st μ μ' H x z xs v vs Q S rx rs hf k
  unfold gExtend at hf
  split at hf
  · split at hf
    · rename_i kk y ds es he hy
      split at hf
      · rename_i hl
        simp only [Option.some.injEq, Prod.mk.injEq] at hf
        obtain ⟨e1, e2⟩ := hf
        subst e1; subst e2
        obtain ⟨a, ws, e1, hk, ha, r1⟩ := cell_lst S rx he
        obtain ⟨w, e2, hw⟩ := rd1 rs
        obtain ⟨b, us, e3, hb, r2⟩ := asL_ok S hw hy
        subst e1; subst e2; subst e3
        obtain ⟨E, S2⟩ := write_lst S hk he ha (r1.append r2)
        exact ⟨a, b, ws, us, rfl, rfl, ha, hb, by rw [← r1.length, ← r2.length]; exact sz6 hl, k st _ _ E S2 (by simp [RD])⟩
      · cases hf
    · cases hf
  · cases hf
/-- pop(), pop(i) -/
def gPop (x : D) (xs : List D) (μ : Sto) : Option (D × Sto) := match x, xs with
  | .ref k, [] => match μ[k]? with
    | some (.lst ds) => (ds[ds.length - 1]?).map fun y => (y, μ.set k (.lst ds.dropLast))
    | _ => none
  | _, _ => none
theorem RDs.dropLast {st : Wd} {H : Hp} {ds : List D} {vs : List V} (r : RDs p st H ds vs) : RDs p st H ds.dropLast vs.dropLast := by
  have h := r.take (ds.length - 1)
  rw [List.dropLast_eq_take, List.dropLast_eq_take, ← r.length]
  exact h
theorem meN_pop : MeN p rPop gPop := by
  intro st μ μ' H x z xs v vs Q S rx rs hf k
  unfold gPop at hf
  split at hf
  · split at hf
    · rename_i kk ds he
      simp only [Option.map_eq_some_iff, Prod.mk.injEq] at hf
      obtain ⟨y, hy, e1, e2⟩ := hf
      subst e1; subst e2
      obtain ⟨a, ws, e1, hk, ha, r1⟩ := cell_lst S rx he
      simp only [RDs] at rs
      subst e1; subst rs
      obtain ⟨u, hu, ru⟩ := r1.get hy
      obtain ⟨E, S2⟩ := write_lst S hk he ha r1.dropLast
      exact ⟨a, ws, u, rfl, rfl, ha, by rw [← r1.length]; exact hu, k st _ _ E S2 (ru.mono E)⟩
    · cases hf
  · cases hf
def gPopAt (x : D) (xs : List D) (μ : Sto) : Option (D × Sto) := match x, xs with
  | .ref k, [.int i] => match μ[k]? with
    | some (.lst ds) => if 0 ≤ i ∧ i < 1000000 then (ds[i.toNat]?).map fun y => (y, μ.set k (.lst (ds.eraseIdx i.toNat))) else none
    | _ => none
  | _, _ => none
theorem meN_popAt : MeN p rPopAt gPopAt := by
  intro st μ μ' H x z xs v vs Q S rx rs hf k
  unfold gPopAt at hf
  split at hf
  · split at hf
    · rename_i kk i _ ds he
      split at hf
      · rename_i hi
        simp only [Option.map_eq_some_iff, Prod.mk.injEq] at hf
        obtain ⟨y, hy, e1, e2⟩ := hf
        subst e1; subst e2
        obtain ⟨a, ws, e1, hk, ha, r1⟩ := cell_lst S rx he
        obtain ⟨w, e2, hw⟩ := rd1 rs
        simp only [RD] at hw
        subst e1; subst e2; subst hw
        obtain ⟨u, hu, ru⟩ := r1.get hy
        obtain ⟨E, S2⟩ := write_lst S hk he ha (r1.eraseIdx i.toNat)
        refine ⟨a, ws, i, i.toNat, u, rfl, rfl, ha, by omega, by omega, ?_, hu, k st _ _ E S2 (ru.mono E)⟩
        have hl : i.toNat < ws.length := (List.getElem?_eq_some_iff.mp hu).1
        unfold seqIndex?
        have hn : ¬ i < 0 := by omega
        simp only [if_neg hn]
        rw [if_pos]
        simp only [Bool.and_eq_true, decide_eq_true_eq]
        omega
      · cases hf
    · cases hf
  · cases hf
/-- sep.join(list of texts) -/
def asStrs : List D → Option (List (List Nat))
  | [] => some []
  | .str l :: r => (asStrs r).map (l :: ·)
  | _ :: _ => none
theorem asStrs_ok {st : Wd} {H : Hp} : ∀ {ds : List D} {vs : List V} {ns : List (List Nat)}, RDs p st H ds vs → asStrs ds = some ns → vs = (ns.map mkS).map V.str
  | [], _, _, r, h => by simp only [RDs] at r; simp only [asStrs, Option.some.injEq] at h; subst r; subst h; rfl
  | .str i :: ds, _, _, r, h => by
    obtain ⟨v, w, e1, h1, h2⟩ := r.of_cons
    simp only [asStrs, Option.map_eq_some_iff] at h
    obtain ⟨ns, hn, e⟩ := h
    simp only [RD] at h1
    obtain ⟨h1, _⟩ := h1
    subst e; subst e1; subst h1
    rw [asStrs_ok h2 hn]; rfl
  | .non :: _, _, _, _, h => by simp [asStrs] at h
  | .bl _ :: _, _, _, _, h => by simp [asStrs] at h
  | .int _ :: _, _, _, _, h => by simp [asStrs] at h
  | .tup _ :: _, _, _, _, h => by simp [asStrs] at h
  | .lst _ :: _, _, _, _, h => by simp [asStrs] at h
  | .dic _ _ :: _, _, _, _, h => by simp [asStrs] at h
  | .ref _ :: _, _, _, _, h => by simp [asStrs] at h
  | .ro _ :: _, _, _, _, h => by simp [asStrs] at h
def gJoin (x : D) (xs : List D) (μ : Sto) : Option (D × Sto) := match x, xs with
  | .str a, [y] => match asSeq μ y with
    | some ds => match asStrs ds with
      | some ls => if (ls.map (·.length)).sum + ls.length * a.length ≤ big then some (.str (TL.joinL a ls), μ) else none
      | none => none
    | none => none
  | _, _ => none
theorem joinL_len (a : List Nat) : ∀ ls : List (List Nat), (TL.joinL a ls).length ≤ (ls.map (·.length)).sum + ls.length * a.length
  | [] => by simp [TL.joinL]
  | [p] => by simp [TL.joinL]
  | p :: q :: r => by
    have ih := joinL_len a (q :: r)
    simp only [TL.joinL, List.length_append, List.map_cons, List.sum_cons, List.length_cons] at *
    have : (r.length + 1 + 1) * a.length = (r.length + 1) * a.length + a.length := by rw [Nat.add_mul (r.length + 1) 1, Nat.one_mul]
    omega
theorem join_mk (a : List Nat) (ls : List (List Nat)) : Txt.join (mkS a) (ls.map mkS) = mkS (TL.joinL a ls) := by
  refine TL.ext_tl ?_
  rw [TL.join_eq, TL.tl_join, List.map_map]
  show TL.joinL a (ls.map fun l => l) = TL.joinL a ls
  rw [List.map_id']
theorem meN_join (hK : X.K = p.K) : MeN p (fun x xs H Q => ∃ a p, ∃ ys : List Str, x = .str a ∧ xs = [.ref p] ∧ (SqL X.K H p (ys.map V.str) ∨ SqT X.K H p (ys.map V.str)) ∧
    (ys.map (·.length)).sum + ys.length * a.length ≤ 16777216 ∧ Q (.str (Txt.join a ys)) H) gJoin := by
  intro st μ μ' H x z xs v vs Q S rx rs hf k
  unfold gJoin at hf
  split at hf
  · split at hf
    · split at hf
      · split at hf
        · rename_i a y _ ds hd _ ls hl hle
          simp only [Option.some.injEq, Prod.mk.injEq] at hf
          obtain ⟨e1, e2⟩ := hf
          subst e1; subst e2
          simp only [RD] at rx
          obtain ⟨w, e2, hw⟩ := rd1 rs
          obtain ⟨b, us, e3, hb, r2⟩ := asSeq_ok S hw hd
          subst e2; subst e3
          rw [asStrs_ok r2 hl] at hb
          refine ⟨mkS a, b, ls.map mkS, rx.1, rfl, by rw [hK]; exact hb, ?_, ?_⟩
          · rw [List.map_map, mkS_len, List.length_map]
            have e : (ls.map ((fun x => x.length) ∘ mkS)) = ls.map (·.length) := by
              refine List.map_congr_left fun l _ => ?_
              exact mkS_len l
            rw [e]
            exact Nat.le_trans hle (by decide)
          · rw [join_mk]
            exact k st H _ Ext.refl S (by simp only [RD]; exact ⟨trivial, Nat.le_trans (joinL_len a ls) (sz6 hle)⟩)
        · cases hf
      · cases hf
    · cases hf
  · cases hf
/-- s.partition(c), one sign -/
def partL (c : Nat) (l : List Nat) : List Nat × List Nat × List Nat := if c ∈ l then (l.takeWhile (· ≠ c), [c], (l.dropWhile (· ≠ c)).drop 1) else (l, [], [])
def gPart (x : D) (xs : List D) (μ : Sto) : Option (D × Sto) := match x, xs with
  | .str l, [.str [c]] => some (.tup [.str (partL c l).1, .str (partL c l).2.1, .str (partL c l).2.2], μ)
  | _, _ => none
theorem part_split {c : Nat} : ∀ {l : List Nat}, c ∈ l → l = l.takeWhile (· ≠ c) ++ c :: (l.dropWhile (· ≠ c)).drop 1
  | [], h => by simp at h
  | d :: l, h => by
    by_cases hd : d = c
    · subst hd; simp
    · have h' : c ∈ l := by simpa [Ne.symm hd] using h
      have ih := part_split h'
      simp only [List.takeWhile_cons, List.dropWhile_cons]
      rw [if_pos (by simpa using hd), if_pos (by simpa using hd)]
      simp only [List.cons_append]
      rw [← ih]
theorem notmem_tw {c : Nat} : ∀ l : List Nat, c ∉ l.takeWhile (· ≠ c)
  | [] => by simp
  | d :: l => by
    by_cases hd : d = c
    · subst hd; simp
    · simp only [List.takeWhile_cons]
      rw [if_pos (by simpa using hd)]
      simp only [List.mem_cons, not_or]
      exact ⟨Ne.symm hd, notmem_tw l⟩
theorem part_mk (c : Nat) (l : List Nat) : Txt.partition (mkS l) (mkS [c]) = (mkS (partL c l).1, mkS (partL c l).2.1, mkS (partL c l).2.2) := by
  unfold partL
  by_cases h : c ∈ l
  · rw [if_pos h]
    have e : mkS l = mkS (l.takeWhile (· ≠ c)) ++ mkS [c] ++ mkS ((l.dropWhile (· ≠ c)).drop 1) := by
      rw [mkS_app, mkS_app]
      congr 1
      simpa using part_split h
    rw [e]
    exact TL.partition_app (s := c) (S := []) rfl (notmem_tw l)
  · rw [if_neg h]
    exact TL.partition_none (s := c) (S := []) rfl h
theorem partL_len (c : Nat) (l : List Nat) : (partL c l).1.length ≤ l.length ∧ (partL c l).2.1.length ≤ l.length ∧ (partL c l).2.2.length ≤ l.length := by
  unfold partL
  by_cases h : c ∈ l
  · rw [if_pos h]
    have e := congrArg List.length (part_split h)
    simp only [List.length_append, List.length_cons] at e
    refine ⟨?_, ?_, ?_⟩ <;> simp only [List.length_cons, List.length_nil] <;> omega
  · rw [if_neg h]; simp
theorem meN_part : MeN p (fun x xs H Q => ∃ a b, x = .str a ∧ xs = [.str b] ∧ (b.length == 0) = false ∧ a.length ≤ sizeLine ∧
    ∀ p, H p = none → Q (.ref p) (upd H p (.tup [.str (Txt.partition a b).1, .str (Txt.partition a b).2.1, .str (Txt.partition a b).2.2]))) gPart := by
  intro st μ μ' H x z xs v vs Q S rx rs hf k
  unfold gPart at hf
  split at hf
  · rename_i l c
    simp only [Option.some.injEq, Prod.mk.injEq] at hf
    obtain ⟨e1, e2⟩ := hf
    subst e1; subst e2
    obtain ⟨w, e2, hw⟩ := rd1 rs
    simp only [RD] at rx hw
    obtain ⟨hw, _⟩ := hw
    obtain ⟨rx, hl⟩ := rx
    subst e2; subst hw
    refine ⟨mkS l, mkS [c], rx, rfl, rfl, by rw [mkS_len]; exact hl, fun q hq => ?_⟩
    rw [part_mk]
    obtain ⟨l1, l2, l3⟩ := partL_len c l
    have r3 : RDs p st H [.str (partL c l).1, .str (partL c l).2.1, .str (partL c l).2.2] [.str (mkS (partL c l).1), .str (mkS (partL c l).2.1), .str (mkS (partL c l).2.2)] := by
      refine RDs.cons ?_ (RDs.cons ?_ (RDs.one ?_)) <;> simp only [RD] <;> refine ⟨trivial, ?_⟩ <;> omega
    obtain ⟨a1, a2, a3⟩ := new_tup S hq r3
    exact k _ _ _ a1 a2 a3
  · cases hf

/-! ### subscripts -/
def gIx (x y : D) (μ : Sto) : Option (D × Sto) := match y with
  | .int i => match x with
    | .str l => (atI l i).map fun c => (.str [c], μ)
    | .ro ns => (atI ns i).map fun c => (.int c, μ)
    | _ => match asSeq μ x with
      | some ds => (atI ds i).map fun d => (d, μ)
      | none => none
  | _ => none
theorem atI_rd {st : Wd} {H : Hp} {ds : List D} {vs : List V} {i : Int} {d : D} (r : RDs p st H ds vs) (h : atI ds i = some d) : ∃ v, atI vs i = some v ∧ RD p st H d v := by
  unfold atI at *
  rw [← r.length]
  simp only [Option.bind_eq_some_iff] at h ⊢
  obtain ⟨j, hj, h⟩ := h
  obtain ⟨v, hv, rv⟩ := r.get h
  exact ⟨v, ⟨j, hj, hv⟩, rv⟩
theorem opS_ix : OpS p (rIx p.K) gIx := by
  intro st μ μ' H x y z v w Q S rx ry hf k
  unfold gIx at hf
  split at hf
  · rename_i i
    simp only [RD] at ry
    subst ry
    split at hf
    · rename_i l
      simp only [Option.map_eq_some_iff, Prod.mk.injEq] at hf
      obtain ⟨c, hc, e1, e2⟩ := hf
      subst e1; subst e2
      simp only [RD] at rx
      obtain ⟨rx, hl⟩ := rx
      subst rx
      exact .inr (.inr ⟨mkS l, i, c, rfl, rfl, by rw [mkS_len]; exact hl, hc, k st H _ Ext.refl S (by simp only [RD]; exact ⟨rfl, by show 1 ≤ sizeLine; decide⟩)⟩)
    · rename_i ns
      simp only [Option.map_eq_some_iff, Prod.mk.injEq] at hf
      obtain ⟨c, hc, e1, e2⟩ := hf
      subst e1; subst e2
      simp only [RD] at rx
      obtain ⟨a, e1, h1⟩ := rx
      subst e1
      refine .inl ⟨a, _, i, .int c, rfl, rfl, h1.sq, ?_, k st H _ Ext.refl S (by simp [RD])⟩
      unfold atI at hc ⊢
      rw [List.length_map]
      simp only [Option.bind_eq_some_iff] at hc ⊢
      obtain ⟨j, hj, h⟩ := hc
      exact ⟨j, hj, by rw [List.getElem?_map, h]; rfl⟩
    · split at hf
      · rename_i ds hd
        simp only [Option.map_eq_some_iff, Prod.mk.injEq] at hf
        obtain ⟨c, hc, e1, e2⟩ := hf
        subst e1; subst e2
        obtain ⟨a, vs, e1, h1, r1⟩ := asSeq_ok S rx hd
        subst e1
        obtain ⟨u, hu, ru⟩ := atI_rd r1 hc
        rcases h1 with h1 | h1
        · exact .inl ⟨a, vs, i, u, rfl, rfl, h1, hu, k st H _ Ext.refl S ru⟩
        · exact .inr (.inl ⟨a, vs, i, u, rfl, rfl, h1, hu, k st H _ Ext.refl S ru⟩)
      · cases hf
  · cases hf
theorem ae_ix {a b : Expr} {ma mb : M D} (ha : AE p X W a ma) (hb : AE p X W b mb) (hs : PlainIx b := by exact fun _ _ => rfl) : AE p X W (.Subscript a b pos) (eOp gIx ma mb) := by
  refine ⟨ha.1, PE.imp (pe_ix ix_seq ha.2 hb.2 hs) fun σ H Q h => ?_⟩
  rw [ha.1]
  exact tOp_of opS_ix σ H Q h

/-! ### slices -/
def cutL {α : Type} (xs : List α) (lo hi : Option Int) : List α := (xs.drop (HT.sIx xs.length 0 lo)).take (HT.sIx xs.length xs.length hi - HT.sIx xs.length 0 lo)
theorem cutL_len {α : Type} (xs : List α) (lo hi : Option Int) : (cutL xs lo hi).length ≤ xs.length := by
  unfold cutL
  rw [List.length_take, List.length_drop]
  omega
def gSl (x : D) (lo hi : Option Int) (μ : Sto) : Option NV := match x with
  | .str l => some (.v (.str (cutL l lo hi)))
  | .tup ds => some (.v (.tup (cutL ds lo hi)))
  | _ => (asL μ x).map fun ds => .l (cutL ds lo hi)
def oInt : D → M (Option Int)
  | .int i => ret (some i)
  | _ => fun _ _ => none
def oNone : M (Option Int) := ret none
def oSome (m : M D) : M (Option Int) := bnd m oInt
def AO (p : Par) (X : Cx) (W : WX) (e : Option Expr) (m : M (Option Int)) : Prop := X.K = p.K ∧ PO X e (tG p W (fun _ _ (a b : Option Int) => a = b) m)
theorem PO.imp {X : Cx} {e : Option Expr} {t t' : TO} (h : PO X e t) (i : ∀ σ H Q, t' σ H Q → t σ H Q) : PO X e t' := ⟨fun pins s σ H Q I q => h.run pins s σ H Q I (i σ H Q q)⟩
theorem ao_none (hK : X.K = p.K) : AO p X W none oNone := ⟨hK, PO.imp po_none fun σ H Q ⟨Γ, μ, st, S, L, P⟩ => P st H _ Ext.refl S rfl⟩
theorem ao_some {e : Expr} {m : M D} (h : AE p X W e m) : AO p X W (some e) (oSome m) := by
  refine ⟨h.1, PO.imp (po_some h.2) fun σ H Q ⟨Γ, μ, st, S, L, P⟩ => ?_⟩
  refine tG_bndE (rel := RD p) S L P fun x v μ1 st1 H1 e1 S1 L1 r1 P1 => ?_
  cases x with
  | int i =>
    simp only [RD] at r1
    exact ⟨i, r1, Post.ret P1 S1 rfl⟩
  | _ => exact P1.elim
def eSl (c : Bool) (o : M D) (lo hi : M (Option Int)) : M D := bnd o fun x => bnd lo fun l => bnd hi fun u => opS fun μ => (gSl x l u μ).map (fin c μ)
theorem cut_rd {st : Wd} {H : Hp} {ds : List D} {vs : List V} {lo hi : Option Int} (r : RDs p st H ds vs) : RDs p st H (cutL ds lo hi) (cutV vs lo hi) := by
  unfold cutL cutV
  rw [← r.length]
  exact (r.drop _).take _
theorem sl_ok {c : Bool} {st : Wd} {μ μ' : Sto} {H : Hp} {x z : D} {v : V} {lo hi : Option Int} {Q : VK} (S : Sim p st μ H) (rx : RD p st H x v) (hf : (gSl x lo hi μ).map (fin c μ) = some (z, μ'))
    (k : ∀ st' H' u, Ext p st H st' H' → Sim p st' μ' H' → RD p st' H' z u → Q u H') : (rSlL p.K v lo hi H Q ∨ rSlA p.K v lo hi H Q) ∨ rSlS v lo hi H Q := by
  unfold gSl at hf
  split at hf
  · rename_i l
    simp only [Option.map_some, fin_v, Option.some.injEq, Prod.mk.injEq] at hf
    obtain ⟨e1, e2⟩ := hf
    subst e1; subst e2
    simp only [RD] at rx
    obtain ⟨rx, hl⟩ := rx
    subst rx
    refine .inr ⟨mkS l, rfl, by rw [mkS_len]; exact hl, ?_⟩
    have e : cutS (mkS l) lo hi = mkS (cutL l lo hi) := by
      unfold cutS cutL mkS
      simp [Str.length]
    rw [e]
    exact k st H _ Ext.refl S (by simp only [RD]; exact ⟨trivial, Nat.le_trans (cutL_len l lo hi) hl⟩)
  · rename_i ds
    simp only [Option.map_some, fin_v, Option.some.injEq, Prod.mk.injEq] at hf
    obtain ⟨e1, e2⟩ := hf
    subst e1; subst e2
    have rx' := rx
    simp only [RD] at rx
    obtain ⟨a, vs, e1, h1, r1⟩ := rx
    subst e1
    refine .inl (.inr ⟨a, vs, rfl, h1, fun h => ?_, fun _ q hq => ?_⟩)
    · have e : cutL ds lo hi = ds := by
        unfold cutL
        rw [← r1.length] at h
        rw [h.1, h.2]
        simp
      refine k st H _ Ext.refl S ?_
      rw [e]; exact rx'
    · obtain ⟨a1, a2, a3⟩ := new_tup S hq (cut_rd (lo := lo) (hi := hi) r1)
      exact k _ _ _ a1 a2 a3
  · simp only [Option.map_map, Option.map_eq_some_iff] at hf
    obtain ⟨ds, hd, hf⟩ := hf
    obtain ⟨a, vs, e1, h1, r1⟩ := asL_ok S rx hd
    subst e1
    refine .inl (.inl ⟨a, vs, rfl, SqL.of h1, fun q hq => ?_⟩)
    refine fin_l (c := c) S (cut_rd (lo := lo) (hi := hi) r1) hq ?_
    have hf' : fin c μ (.l (cutL ds lo hi)) = (z, μ') := hf
    rw [hf']
    exact k
theorem ae_sl {a : Expr} {lo hi : Option Expr} {ma : M D} {ml mh : M (Option Int)} {p2 : Pos} (c : Bool) (ha : AE p X W a ma) (hl : AO p X W lo ml) (hh : AO p X W hi mh) : AE p X W (.Subscript a (.Slice lo hi none p2) pos) (eSl c ma ml mh) := by
  refine ⟨ha.1, PE.imp (pe_slice (SlR.or (SlR.or sl_list sl_tupA) sl_str) ha.2 hl.2 hh.2) fun σ H Q ⟨Γ, μ, st, S, L, P⟩ => ?_⟩
  refine tG_bndE (rel := RD p) S L P fun x v μ1 st1 H1 e1 S1 L1 r1 P1 => ?_
  refine tG_bndE (rel := fun _ _ (a b : Option Int) => a = b) S1 L1 P1 fun l l' μ2 st2 H2 e2 S2 L2 r2 P2 => ?_
  subst r2
  refine tG_bndE (rel := fun _ _ (a b : Option Int) => a = b) S2 L2 P2 fun u u' μ3 st3 H3 e3 S3 L3 r3 P3 => ?_
  subst r3
  obtain ⟨z, μ4, hf, k⟩ := P3.opS
  rw [ha.1]
  exact sl_ok S3 (r1.mono (e2.trans e3)) hf k

/-! ### fields -/
structure FldOk (p : Par) (c : Nat) (f : Str) (i : Nat) : Prop where
  cl : Cls p.K (p.ca c)
  no : NoAttr p.K (p.ca c) f
  ix : (p.cn c)[i]? = some f
  nd : (p.cn c).Nodup
  few : (p.cn c).length ≤ 900
theorem zip_lookup {f : Str} : ∀ {ns : List Str} {vs : List V} {i : Nat} {v : V}, ns.Nodup → ns[i]? = some f → vs[i]? = some v → (ns.zip vs).lookup f = some v
  | [], _, _, _, _, h, _ => by simp at h
  | n :: ns, [], _, _, _, _, h => by simp at h
  | n :: ns, w :: vs, 0, v, hn, h1, h2 => by
    simp at h1 h2
    subst h1; subst h2
    simp [List.zip_cons_cons, List.lookup]
  | n :: ns, w :: vs, i + 1, v, hn, h1, h2 => by
    have hn' := List.nodup_cons.mp hn
    have ne : f ≠ n := fun e => hn'.1 (e ▸ List.mem_of_getElem? (by simpa using h1))
    have ih := zip_lookup (i := i) hn'.2 (by simpa using h1) (by simpa using h2)
    simp only [List.zip_cons_cons, List.lookup]
    rw [show (f == n) = false by simpa using ne]
    exact ih
theorem zip_putF {f : Str} {y : V} : ∀ {ns : List Str} {vs : List V} {i : Nat}, ns.Nodup → ns[i]? = some f → i < vs.length → putF f y (ns.zip vs) = ns.zip (vs.set i y)
  | [], _, _, _, h, _ => by simp at h
  | n :: ns, [], _, _, _, h => by simp at h
  | n :: ns, w :: vs, 0, hn, h1, h2 => by
    simp at h1
    subst h1
    simp [List.zip_cons_cons, putF]
  | n :: ns, w :: vs, i + 1, hn, h1, h2 => by
    have hn' := List.nodup_cons.mp hn
    have ne : n ≠ f := fun e => hn'.1 (e ▸ List.mem_of_getElem? (by simpa using h1))
    have ih := zip_putF (y := y) (i := i) hn'.2 (by simpa using h1) (by simpa using h2)
    simp only [List.zip_cons_cons, putF, List.set_cons_succ]
    rw [if_neg ne, ih]
theorem zip_putF_new {f : Str} {y : V} : ∀ {ns : List Str} {vs : List V}, ns.Nodup → ns[vs.length]? = some f → putF f y (ns.zip vs) = ns.zip (vs ++ [y])
  | [], _, _, h => by simp at h
  | n :: ns, [], hn, h1 => by
    simp at h1
    subst h1
    simp [putF]
  | n :: ns, w :: vs, hn, h1 => by
    have hn' := List.nodup_cons.mp hn
    have ne : n ≠ f := fun e => hn'.1 (e ▸ List.mem_of_getElem? (by simpa using h1))
    have ih := zip_putF_new (y := y) (vs := vs) hn'.2 (by simpa using h1)
    simp only [List.zip_cons_cons, putF, List.cons_append]
    rw [if_neg ne, ih]
/-- o.f: by the class of o, the place of f -/
def getF (tb : List (Nat × Nat)) (x : D) (μ : Sto) : Option D := match x with
  | .ref k => match μ[k]? with
    | some (.ins c ds) => match tb.lookup c with
      | some i => ds[i]?
      | none => none
    | _ => none
  | _ => none
def eFld (tb : List (Nat × Nat)) (o : M D) : M D := bnd o fun x => opS fun μ => (getF tb x μ).map fun d => (d, μ)
theorem getF_ok {tb : List (Nat × Nat)} {f : Str} {x d : D} {v : V} {μ : Sto} {st : Wd} {H : Hp} (T : ∀ c i, tb.lookup c = some i → FldOk p c f i) (S : Sim p st μ H) (r : RD p st H x v) (h : getF tb x μ = some d) :
    ∃ a k c i ds dx vs u, x = .ref k ∧ v = .ref a ∧ st.φ[k]? = some a ∧ μ[k]? = some (.ins c ds) ∧ tb.lookup c = some i ∧ ds[i]? = some d ∧ H a = some (.ins (p.ca c) dx ((p.cn c).zip vs)) ∧ RDs p st H ds vs ∧ vs.length ≤ (p.cn c).length ∧ vs[i]? = some u ∧ RD p st H d u ∧ ((p.cn c).zip vs).lookup f = some u := by
  unfold getF at h
  split at h
  · split at h
    · split at h
      · rename_i k _ c ds hc _ i hi
        simp only [RD] at r
        obtain ⟨a, e1, h1⟩ := r
        obtain ⟨ho, h2, r2⟩ := S.cel k a _ h1 hc
        obtain ⟨dx, vs, e2, r3, hl⟩ := r2
        subst e2
        obtain ⟨u, hu, ru⟩ := r3.get h
        have F := T c i hi
        exact ⟨a, k, c, i, ds, dx, vs, u, rfl, e1, h1, hc, hi, h, h2, r3, hl, hu, ru, zip_lookup F.nd F.ix hu⟩
      · cases h
    · cases h
  · cases h
theorem ae_fld {a : Expr} {f : Str} {tb : List (Nat × Nat)} {ma : M D} (T : ∀ c i, tb.lookup c = some i → FldOk p c f i) (ha : AE p X W a ma) (hb : attributeBase a f X.env (eval a X.env) = eval a X.env := by rfl) : AE p X W (.Attribute a f pos) (eFld tb ma) := by
  refine ⟨ha.1, PE.imp (pe_fld ha.2 hb) fun σ H Q ⟨Γ, μ, st, S, L, P⟩ => ?_⟩
  refine tG_bndE (rel := RD p) S L P fun x v μ1 st1 H1 e1 S1 L1 r1 P1 => ?_
  obtain ⟨z, μ4, hf, k⟩ := P1.opS
  simp only [Option.map_eq_some_iff, Prod.mk.injEq] at hf
  obtain ⟨d, hd, e2, e3⟩ := hf
  subst e2; subst e3
  obtain ⟨a, kk, c, i, ds, dx, vs, u, _, e2, _, _, hi, _, h2, _, _, _, ru, hl⟩ := getF_ok T S1 r1 hd
  have F := T c i hi
  rw [ha.1]
  exact ⟨a, p.ca c, dx, _, u, e2, h2, F.cl, F.no, hl, k st1 H1 u Ext.refl S1 ru⟩
end
end Ab

set_option maxRecDepth 100000
set_option maxHeartbeats 1000000
namespace Ab
open PySem L2

inductive SO where
  | nx (Γ : Env') (μ : Sto) | rt (d : D) (μ : Sto) | bk (Γ : Env') (μ : Sto) | ct (Γ : Env') (μ : Sto) | exc (c : Nat) (ds : List D) (Γ : Env') (μ : Sto)
abbrev SM := Env' → Sto → Option SO

def PostS (p : Par) (W : WX) (E : Ends) (st : Wd) (H : Hp) : Option SO → Prop
  | some (.nx Γ' μ') => ∀ st' σ' H', Ext p st H st' H' → Sim p st' μ' H' → Sl p st' H' Γ' σ' → E.nx σ' H'
  | some (.rt d μ') => ∀ st' H' v, Ext p st H st' H' → Sim p st' μ' H' → RD p st' H' d v → E.rt v H'
  | some (.bk Γ' μ') => ∀ st' σ' H', Ext p st H st' H' → Sim p st' μ' H' → Sl p st' H' Γ' σ' → E.bk σ' H'
  | some (.ct Γ' μ') => ∀ st' σ' H', Ext p st H st' H' → Sim p st' μ' H' → Sl p st' H' Γ' σ' → E.ct σ' H'
  | some (.exc c ds Γ' μ') => ∀ st' σ' H' dd, Ext p st H st' H' → Sim p st' μ' H' → Sl p st' H' Γ' σ' → XD p st' H' c ds dd → W (.ref (p.ca c)) (some dd) σ' H'
  | none => False
def tS (p : Par) (W : WX) (m : SM) : TS := fun E σ H => ∃ Γ μ st, Sim p st μ H ∧ Sl p st H Γ σ ∧ PostS p W E st H (m Γ μ)
def AS (p : Par) (X : Cx) (W : WX) (s : Stmt) (m : SM) : Prop := X.K = p.K ∧ PS X s (tS p W m)
def ASs (p : Par) (X : Cx) (W : WX) (s : List Stmt) (m : SM) : Prop := X.K = p.K ∧ PSs X s (tS p W m)
theorem PS.imp {X : Cx} {s : Stmt} {t t' : TS} (h : PS X s t) (i : ∀ E σ H, t' E σ H → t E σ H) : PS X s t' := ⟨fun pins s σ H E I q => h.run pins s σ H E I (i E σ H q)⟩
theorem PSs.imp {X : Cx} {s : List Stmt} {t t' : TS} (h : PSs X s t) (i : ∀ E σ H, t' E σ H → t E σ H) : PSs X s t' := ⟨fun pins s σ H E I q => h.run pins s σ H E I (i E σ H q)⟩

section
variable {p : Par} {X : Cx} {W : WX} {pos : Pos}
theorem PostS.ext {E : Ends} {st st' : Wd} {H H' : Hp} {r : Option SO} (P : PostS p W E st H r) (e : Ext p st H st' H') : PostS p W E st' H' r := by
  cases r with
  | none => exact P
  | some o =>
    cases o with
    | nx Γ μ => exact fun a b c d => P a b c (e.trans d)
    | rt Γ μ => exact fun a b c d => P a b c (e.trans d)
    | bk Γ μ => exact fun a b c d => P a b c (e.trans d)
    | ct Γ μ => exact fun a b c d => P a b c (e.trans d)
    | exc c ds Γ μ => exact fun a b c d f => P a b c d (e.trans f)

def bS {α : Type} (m : M α) (k : α → SM) : SM := fun Γ μ => match m Γ μ with
  | some (.ok a μ') => k a Γ μ'
  | some (.exc c ds μ') => some (.exc c ds Γ μ')
  | none => none
def sNext : SM := fun Γ μ => some (.nx Γ μ)
theorem tG_bS {α β : Type} {rel : Wd → Hp → α → β → Prop} {m : M α} {k : α → SM} {σ : L2.St} {H : Hp} {E : Ends} {Q1 : β → Hp → Prop} {Γ : Env'} {μ : Sto} {st : Wd} (S : Sim p st μ H) (L : Sl p st H Γ σ) (P : PostS p W E st H (bS m k Γ μ))
    (hk : ∀ a b μ' st' H', Ext p st H st' H' → Sim p st' μ' H' → Sl p st' H' Γ σ → rel st' H' a b → PostS p W E st' H' (k a Γ μ') → Q1 b H') : tG p W rel m σ H Q1 := by
  refine ⟨Γ, μ, st, S, L, ?_⟩
  unfold bS at P
  unfold Post
  cases hm : m Γ μ with
  | none => rw [hm] at P; exact P
  | some r =>
    rw [hm] at P
    cases r with
    | exc c ds μ' => exact fun st' H' dd e S' x => P st' σ H' dd e S' (L.mono e) x
    | ok a μ' => exact fun st' H' b e S' rl => hk a b μ' st' H' e S' (L.mono e) rl (P.ext e)
theorem PostS.next {E : Ends} {st : Wd} {H : Hp} {Γ : Env'} {μ : Sto} {σ : L2.St} (P : PostS p W E st H (some (.nx Γ μ))) (S : Sim p st μ H) (L : Sl p st H Γ σ) : E.nx σ H := P st σ H Ext.refl S L

/-! ### blocks -/
def sSeq (a b : SM) : SM := fun Γ μ => match a Γ μ with
  | some (.nx Γ' μ') => b Γ' μ'
  | r => r
variable {s : Stmt} {ss : List Stmt} {m m1 m2 : SM} {e : Expr} {me : M D}
theorem ass_nil (hK : X.K = p.K) : ASs p X W [] sNext := ⟨hK, PSs.imp pss_nil fun E σ H ⟨Γ, μ, st, S, L, P⟩ => P.next S L⟩
theorem seq_ok {E : Ends} {σ : L2.St} {H : Hp} (h : tS p W (sSeq m1 m2) E σ H) : tS p W m1 { E with nx := tS p W m2 E } σ H := by
  obtain ⟨Γ, μ, st, S, L, P⟩ := h
  refine ⟨Γ, μ, st, S, L, ?_⟩
  unfold sSeq at P
  cases hm : m1 Γ μ with
  | none => rw [hm] at P; exact P
  | some r =>
    rw [hm] at P
    cases r with
    | nx Γ' μ' => exact fun st' σ' H' e' S' L' => ⟨Γ', μ', st', S', L', PostS.ext (show PostS p W E st H (m2 Γ' μ') from P) e'⟩
    | rt _ _ => exact P
    | bk _ _ => exact P
    | ct _ _ => exact P
    | exc _ _ _ _ => exact P
theorem ass_cons (h : AS p X W s m1) (g : ASs p X W ss m2) : ASs p X W (s :: ss) (sSeq m1 m2) := ⟨h.1, PSs.imp (pss_cons h.2 g.2) fun E σ H q => seq_ok q⟩
theorem ass_one (h : AS p X W s m) : ASs p X W [s] m := ⟨h.1, pss_one h.2⟩
def sPass : SM := sNext
def sBrk : SM := fun Γ μ => some (.bk Γ μ)
def sCnt : SM := fun Γ μ => some (.ct Γ μ)
theorem as_pass (hK : X.K = p.K) : AS p X W (.Pass pos) sNext := ⟨hK, PS.imp ps_pass fun E σ H ⟨Γ, μ, st, S, L, P⟩ => P.next S L⟩
theorem as_break (hK : X.K = p.K) : AS p X W (.Break pos) sBrk := ⟨hK, PS.imp ps_break fun E σ H ⟨Γ, μ, st, S, L, P⟩ => P st σ H Ext.refl S L⟩
theorem as_cont (hK : X.K = p.K) : AS p X W (.Continue pos) sCnt := ⟨hK, PS.imp ps_continue fun E σ H ⟨Γ, μ, st, S, L, P⟩ => P st σ H Ext.refl S L⟩
def sExpr (m : M D) : SM := bS m fun _ => sNext
theorem as_expr (h : AE p X W e me) (hs : swapsWith e none pos.line X.env = pure false := by rfl) : AS p X W (.Expr e pos) (sExpr me) :=
  ⟨h.1, PS.imp (ps_expr h.2 hs) fun E σ H ⟨Γ, μ, st, S, L, P⟩ => tG_bS (rel := RD p) S L P fun a b μ' st' H' e' S' L' r' P' => P'.next S' L'⟩
def sRet (m : M D) : SM := bS m fun d _ μ => some (.rt d μ)
theorem as_ret (h : AE p X W e me) : AS p X W (.Return (some e) pos) (sRet me) :=
  ⟨h.1, PS.imp (ps_ret h.2) fun E σ H ⟨Γ, μ, st, S, L, P⟩ => tG_bS (rel := RD p) S L P fun a b μ' st' H' e' S' L' r' P' => P' st' H' b Ext.refl S' r'⟩
def sRetN : SM := fun _ μ => some (.rt .non μ)
theorem as_retN (hK : X.K = p.K) : AS p X W (.Return none pos) sRetN := ⟨hK, PS.imp ps_retN fun E σ H ⟨Γ, μ, st, S, L, P⟩ => P st H _ Ext.refl S (by simp [RD])⟩
def sIf (c : M Bool) (a b : SM) : SM := bS c fun k => if k = true then a else b
theorem as_if {c : Expr} {a b : List Stmt} {mc : M Bool} (hc : AT p X W c mc) (ha : ASs p X W a m1) (hb : ASs p X W b m2) : AS p X W (.If c a b pos) (sIf mc m1 m2) := by
  refine ⟨hc.1, PS.imp (ps_if hc.2 ha.2 hb.2) fun E σ H ⟨Γ, μ, st, S, L, P⟩ => tG_bS (rel := fun _ _ (a b : Bool) => a = b) S L P fun a b μ' st' H' e' S' L' r' P' => ?_⟩
  subst r'
  cases a with
  | true => exact ⟨Γ, μ', st', S', L', P'⟩
  | false => exact ⟨Γ, μ', st', S', L', P'⟩
/-- a statement that the proof never comes to -/
def sNo : SM := fun _ _ => none
theorem as_no (hK : X.K = p.K) : AS p X W s sNo := ⟨hK, PS.imp ps_never fun E σ H ⟨Γ, μ, st, S, L, P⟩ => P⟩

/-! ### targets -/
abbrev GM := D → SM
def tGt (p : Par) (W : WX) (g : GM) : TG := fun v σ H Q => ∃ Γ μ st d, Sim p st μ H ∧ Sl p st H Γ σ ∧ RD p st H d v ∧ PostS p W { nx := Q, rt := fun _ _ => False } st H (g d Γ μ)
def AG (p : Par) (X : Cx) (W : WX) (t : Expr) (g : GM) : Prop := X.K = p.K ∧ PG X t (tGt p W g)
theorem PG.imp {X : Cx} {e : Expr} {t t' : TG} (h : PG X e t) (i : ∀ v σ H Q, t' v σ H Q → t v σ H Q) : PG X e t' := ⟨fun pins s σ H v u Q I r q => h.run pins s σ H v u Q I r (i v σ H Q q)⟩
theorem PGs.imp {X : Cx} {e : List Expr} {t t' : TGs} (h : PGs X e t) (i : ∀ v σ H Q, t' v σ H Q → t v σ H Q) : PGs X e t' := ⟨fun pins s σ H v u Q I r q => h.run pins s σ H v u Q I r (i v σ H Q q)⟩
def sSet (i : Nat) (d : D) : SM := fun Γ μ => some (.nx (Γ.set i (some d)) μ)
theorem ag_name {i : Nat} {t : Expr} (hK : X.K = p.K) (h : PG X t (gName i)) : AG p X W t (sSet i) :=
  ⟨hK, PG.imp h fun v σ H Q ⟨Γ, μ, st, d, S, L, r, P⟩ => P st _ H Ext.refl S (L.set r)⟩
/-- a row of targets -/
def tGts (p : Par) (W : WX) (g : List D → SM) : TGs := fun vs σ H Q => ∃ Γ μ st ds, Sim p st μ H ∧ Sl p st H Γ σ ∧ RDs p st H ds vs ∧ PostS p W { nx := Q, rt := fun _ _ => False } st H (g ds Γ μ)
def AGs (p : Par) (X : Cx) (W : WX) (t : List Expr) (g : List D → SM) : Prop := X.K = p.K ∧ PGs X t (tGts p W g)
def gsNil : List D → SM
  | [] => sNext
  | _ :: _ => fun _ _ => none
def gsCons (g : GM) (r : List D → SM) : List D → SM
  | [] => fun _ _ => none
  | d :: ds => sSeq (g d) (r ds)
theorem ags_nil (hK : X.K = p.K) : AGs p X W [] gsNil := by
  refine ⟨hK, PGs.imp pgs_nil fun vs σ H Q ⟨Γ, μ, st, ds, S, L, r, P⟩ => ?_⟩
  cases ds with
  | nil => simp only [RDs] at r; exact ⟨r, P st σ H Ext.refl S L⟩
  | cons d ds => exact P.elim
theorem ags_cons {t : Expr} {ts : List Expr} {g : GM} {r : List D → SM} (h : AG p X W t g) (k : AGs p X W ts r) (hs : (assignEach (t :: ts) X.env).map (·.2) = assign t X.env :: (assignEach ts X.env).map (·.2) := by rfl) : AGs p X W (t :: ts) (gsCons g r) := by
  refine ⟨h.1, PGs.imp (pgs_cons h.2 k.2 hs) fun vs σ H Q ⟨Γ, μ, st, ds, S, L, rr, P⟩ => ?_⟩
  cases ds with
  | nil => exact P.elim
  | cons d ds =>
    obtain ⟨v, w, e1, h1, h2⟩ := rr.of_cons
    subst e1
    refine ⟨v, w, rfl, Γ, μ, st, d, S, L, h1, ?_⟩
    have P' : PostS p W { nx := Q, rt := fun _ _ => False } st H (sSeq (g d) (r ds) Γ μ) := P
    unfold sSeq at P'
    cases hm : g d Γ μ with
    | none => rw [hm] at P'; exact P'
    | some q =>
      rw [hm] at P'
      cases q with
      | nx Γ' μ' => exact fun st' σ' H' e' S' L' => ⟨Γ', μ', st', ds, S', L', h2.mono e', PostS.ext P' e'⟩
      | rt _ _ => exact P'
      | bk _ _ => exact fun a b c d e f => (P' a b c d e f).elim
      | ct _ _ => exact fun a b c d e f => (P' a b c d e f).elim
      | exc _ _ _ _ => exact P'
/-- (a, b, ..) = a tuple | a list -/
def gTp (n : Nat) (r : List D → SM) : GM := fun d Γ μ => match d with
  | .tup ds => if ds.length = n then r ds Γ μ else none
  | _ => none
theorem ag_tup {ts : List Expr} {k n : Nat} {r : List D → SM} (hc : X.calm = true) (h : AGs p X W ts r) (hn : (assignEach ts X.env).length = n := by rfl) (hst : (assignEach ts X.env).findIdx? (·.1) = none := by rfl) : AG p X W (.Tuple ts k pos) (gTp n r) := by
  refine ⟨h.1, PG.imp (pg_tup hc h.2 hn hst) fun v σ H Q ⟨Γ, μ, st, d, S, L, rr, P⟩ => ?_⟩
  cases d with
  | tup ds =>
    simp only [gTp] at P
    split at P
    · rename_i hl
      simp only [RD] at rr
      obtain ⟨a, vs, e1, h1, h2⟩ := rr
      refine ⟨a, vs, e1, by rw [h.1]; exact h1, by rw [← h2.length]; exact hl, Γ, μ, st, ds, S, L, h2, P⟩
    · exact P.elim
  | _ => exact P.elim
/-- target = e -/
def sAsg (m : M D) (g : GM) : SM := bS m g
theorem as_asg {t : Expr} {g : GM} (he : AE p X W e me) (hg : AG p X W t g) (hs : swapsWithSole [t] e pos.line X.env = pure false := by rfl) (hw : swappedStores [t] e X.env = pure none := by rfl) (h1 : (assignEach [t] X.env).map (·.2) = [assign t X.env] := by rfl) (hg1 : ∀ d Γ μ, match g d Γ μ with | some (.nx _ _) => True | none => True | _ => False) :
    AS p X W (.Assign [t] e pos) (sAsg me g) := by
  refine ⟨he.1, PS.imp (ps_asg he.2 hg.2 hs hw h1) fun E σ H ⟨Γ, μ, st, S, L, P⟩ => tG_bS (rel := RD p) S L P fun a b μ' st' H' e' S' L' r' P' => ⟨Γ, μ', st', a, S', L', r', ?_⟩⟩
  have := hg1 a Γ μ'
  cases hm : g a Γ μ' with
  | none => rw [hm] at P'; exact P'
  | some q =>
    rw [hm] at P' this
    cases q with
    | nx _ _ => exact P'
    | _ => exact this.elim
/-- .. where the target lets only nx out -/
def OnlyNx (g : GM) : Prop := ∀ d Γ μ, match g d Γ μ with | some (.nx _ _) => True | none => True | _ => False
def OnlyNxs (g : List D → SM) : Prop := ∀ d Γ μ, match g d Γ μ with | some (.nx _ _) => True | none => True | _ => False
theorem on_set (i : Nat) : OnlyNx (sSet i) := fun _ _ _ => trivial
theorem on_nil : OnlyNxs gsNil := fun d _ _ => by cases d <;> trivial
theorem on_cons {g : GM} {r : List D → SM} (h : OnlyNx g) (k : OnlyNxs r) : OnlyNxs (gsCons g r) := fun d Γ μ => by
  cases d with
  | nil => trivial
  | cons d ds =>
    show match sSeq (g d) (r ds) Γ μ with | some (.nx _ _) => True | none => True | _ => False
    unfold sSeq
    have h1 := h d Γ μ
    cases hm : g d Γ μ with
    | none => trivial
    | some q =>
      rw [hm] at h1
      cases q with
      | nx Γ' μ' => exact k ds Γ' μ'
      | _ => exact h1.elim
theorem on_tup {n : Nat} {r : List D → SM} (h : OnlyNxs r) : OnlyNx (gTp n r) := fun d Γ μ => by
  cases d with
  | tup ds =>
    simp only [gTp]
    by_cases hl : ds.length = n
    · simp only [if_pos hl]; exact h ds Γ μ
    · simp only [if_neg hl]
  | _ => trivial
theorem as_set {i : Nat} {x : Str} {pt : Pos} (hN : X.N.Nodup) (hi : X.N[i]? = some x) (hx : Loc X.env.scope x) (he : AE p X W e me) (hs : swapsWithSole [.Name x pt] e pos.line X.env = pure false := by rfl) (hw : swappedStores [.Name x pt] e X.env = pure none := by rfl)
    (hf : X.fn x = true ∨ X.env.scope.names.lookup x = some .local := by first | exact .inl rfl | exact .inr rfl | assumption) : AS p X W (.Assign [.Name x pt] e pos) (sAsg me (sSet i)) :=
  as_asg he (ag_name he.1 (pg_name hN hi hx hf)) hs hw rfl (on_set i)
/-- a, b = e1, e2, two locals -/
def sPar (i j : Nat) (m : M (List D)) : SM := bS m fun ds Γ μ => match ds with
  | [a, b] => some (.nx ((Γ.set i (some a)).set j (some b)) μ)
  | _ => none
theorem as_par {i j : Nat} {x y : Str} {a b : Expr} {ma : M (List D)} {px py pt : Pos} {kt k2 pt2} (hc : X.calm = true) (hN : X.N.Nodup) (hi : X.N[i]? = some x) (hj : X.N[j]? = some y) (hij : i ≠ j)
    (hx : X.env.scope.names.lookup x = some .local) (hy : X.env.scope.names.lookup y = some .local) (ha : AA p X W [a, b] ma)
    (hw : swappedStores [.Tuple [.Name x px, .Name y py] kt pt] (.Tuple [a, b] k2 pt2) X.env = pure (some [x, y]))
    (hs : swapsWithSole [.Tuple [.Name x px, .Name y py] kt pt] (.Tuple [a, b] k2 pt2) pos.line X.env = pure false := by rfl) :
    AS p X W (.Assign [.Tuple [.Name x px, .Name y py] kt pt] (.Tuple [a, b] k2 pt2) pos) (sPar i j ma) := by
  refine ⟨ha.1, PS.imp (ps_par hc hN hi hj hij hx hy ha.2 hw hs) fun E σ H ⟨Γ, μ, st, S, L, P⟩ => tG_bS (rel := RDs p) S L P fun ds vs μ' st' H' e' S' L' r' P' => ?_⟩
  cases ds with
  | nil => exact P'.elim
  | cons d1 ds =>
    cases ds with
    | nil => exact P'.elim
    | cons d2 ds =>
      cases ds with
      | cons _ _ => exact P'.elim
      | nil =>
        obtain ⟨v, w, e1, h1, h2⟩ := rd2 r'
        exact ⟨v, w, e1, P' st' _ H' Ext.refl S' ((L'.set h1).set h2)⟩

/-! ### x op= e, by values -/
def IpS (p : Par) (r : TIp) (f : D → D → Sto → Option (D × Sto)) : Prop := OpS p r f
def sAug (i : Nat) (f : D → D → Sto → Option (D × Sto)) (m : M D) : SM := bS (eOp f (eVar i) m) (sSet i)
theorem as_aug {i : Nat} {x : Str} {op : Operator} {ti : TIp} {pos' : Pos} {f : D → D → Sto → Option (D × Sto)} (hN : X.N.Nodup) (hi : X.N[i]? = some x) (hx : Loc X.env.scope x) (he : AE p X W e me) (ho : PIp X op ti) (hr : OpS p ti f)
    (hf : X.fn x = true ∨ X.env.scope.names.lookup x = some .local := by first | exact .inl rfl | exact .inr rfl | assumption) : AS p X W (.AugAssign (.Name x pos') op e pos) (sAug i f me) := by
  refine ⟨he.1, PS.imp (ps_aug hN hi hx he.2 ho hf) fun E σ H ⟨Γ, μ, st, S, L, P⟩ => ?_⟩
  have h0 : tG p W (RD p) (eOp f (eVar i) me) σ H fun z H1 => E.nx (σ.set i (some z)) H1 := tG_bS (rel := RD p) S L P fun a b μ' st' H' e' S' L' r' P' => P'.next S' (L'.set r')
  have h1 := tOp_of (W := W) hr σ H _ h0
  obtain ⟨Γ', μ', st', S', L', P1⟩ := h1
  unfold Post eVar at P1
  cases hm : Γ'[i]? with
  | none => rw [hm] at P1; exact P1.elim
  | some o =>
    rw [hm] at P1
    cases o with
    | none => exact P1.elim
    | some d =>
      obtain ⟨v, h1, h2⟩ := L'.2 i d hm
      exact ⟨v, h1, P1 st' H v Ext.refl S' h2⟩

/-! ### o.f = e -/
def setF (tb : List (Nat × Nat)) (x y : D) (μ : Sto) : Option Sto := match x with
  | .ref k => match μ[k]? with
    | some (.ins c ds) => match tb.lookup c with
      | some i => if i < ds.length then some (μ.set k (.ins c (ds.set i y))) else if i = ds.length then some (μ.set k (.ins c (ds ++ [y]))) else none
      | none => none
    | _ => none
  | _ => none
theorem setF_ok {tb : List (Nat × Nat)} {f : Str} {x y : D} {v u : V} {μ μ' : Sto} {st : Wd} {H : Hp} (T : ∀ c i, tb.lookup c = some i → FldOk p c f i) (S : Sim p st μ H) (r : RD p st H x v) (ry : RD p st H y u) (h : setF tb x y μ = some μ') :
    ∃ a C dx fs, v = .ref a ∧ H a = some (.ins C dx fs) ∧ Cls p.K C ∧ NoAttr p.K C f ∧ fs.length < 1000 ∧ Ext p st H st (upd H a (.ins C dx (putF f u fs))) ∧ Sim p st μ' (upd H a (.ins C dx (putF f u fs))) := by
  unfold setF at h
  split at h
  · split at h
    · split at h
      · rename_i k _ c ds hc _ i hi
        simp only [RD] at r
        obtain ⟨a, e1, h1⟩ := r
        obtain ⟨ho, h2, r2⟩ := S.cel k a _ h1 hc
        obtain ⟨dx, vs, e2, r3, hl⟩ := r2
        subst e2
        have F := T c i hi
        have hlen : ((p.cn c).zip vs).length < 1000 := by
          rw [List.length_zip]
          have := F.few
          omega
        refine ⟨a, p.ca c, dx, _, e1, h2, F.cl, F.no, hlen, ?_⟩
        have E : Ext p st H st (upd H a (.ins (p.ca c) dx (putF f u ((p.cn c).zip vs)))) := Ext.write S h1 hc (by simp) h2 (by simp) (by simp) (by simp)
        refine ⟨E, ?_⟩
        split at h
        · rename_i hlt
          cases h
          refine S.write h1 hc (by simp) h2 (by simp) (by simp) (by simp) ⟨dx, vs.set i u, ?_, (r3.set i ry).mono E, by simpa using hl⟩
          rw [zip_putF F.nd F.ix (by rw [← r3.length]; exact hlt)]
        · split at h
          · rename_i heq
            cases h
            have hi2 : i < (p.cn c).length := (List.getElem?_eq_some_iff.mp F.ix).1
            refine S.write h1 hc (by simp) h2 (by simp) (by simp) (by simp) ⟨dx, vs ++ [u], ?_, (r3.append (RDs.one ry)).mono E, ?_⟩
            · rw [zip_putF_new F.nd (by rw [← r3.length, ← heq]; exact F.ix)]
            · rw [List.length_append, List.length_singleton, ← r3.length]; omega
          · cases h
      · cases h
    · cases h
  · cases h
def sFld (tb : List (Nat × Nat)) (o v : M D) : SM := bS v fun y => bS o fun x Γ μ => (setF tb x y μ).map fun μ' => .nx Γ μ'
theorem as_fld {o : Expr} {f : Str} {tb : List (Nat × Nat)} {mo : M D} {pos' : Pos} (T : ∀ c i, tb.lookup c = some i → FldOk p c f i) (ho : AE p X W o mo) (he : AE p X W e me) (hs : swapsWith e (some (.Attribute o f pos')) pos.line X.env = pure false := by rfl) :
    AS p X W (.Assign [.Attribute o f pos'] e pos) (sFld tb mo me) := by
  refine ⟨he.1, PS.imp (ps_fld ho.2 he.2 hs) fun E σ H ⟨Γ, μ, st, S, L, P⟩ => tG_bS (rel := RD p) S L P fun y u μ1 st1 H1 e1 S1 L1 r1 P1 => tG_bS (rel := RD p) S1 L1 P1 fun x v μ2 st2 H2 e2 S2 L2 r2 P2 => ?_⟩
  cases hf : setF tb x y μ2 with
  | none => rw [hf] at P2; exact P2.elim
  | some μ3 =>
    rw [hf] at P2
    obtain ⟨a, C, dx, fs, e3, h1, h2, h3, h4, h5, h6⟩ := setF_ok T S2 r2 (r1.mono e2) hf
    rw [ho.1]
    exact ⟨a, C, dx, fs, e3, h1, h2, h3, h4, P2 st2 σ _ h5 h6 (L2.mono h5)⟩

/-! ### while -/
def sWhile (c : M Bool) (b : SM) : Nat → SM
  | 0 => fun _ _ => none
  | n + 1 => bS c fun k => if k = true then (fun Γ μ => match b Γ μ with
      | some (.nx Γ' μ') => sWhile c b n Γ' μ'
      | some (.ct Γ' μ') => sWhile c b n Γ' μ'
      | some (.bk Γ' μ') => some (.nx Γ' μ')
      | r => r) else sNext
theorem as_while {c : Expr} {body : List Stmt} {mc : M Bool} {mb : SM} (n : Nat) (hp : PassesOwn (model X.prog X.w) X.A X.env X.xe) (hc : AT p X W c mc) (hb : ASs p X W body mb) : AS p X W (.While c body [] pos) (sWhile mc mb n) := by
  refine ⟨hc.1, PS.imp (ps_while hp hc.2 hb.2) fun E σ H ⟨Γ, μ, st, S, L, P⟩ => ?_⟩
  refine ⟨fun k σ H => tS p W (sWhile mc mb k) E σ H, ⟨n, Γ, μ, st, S, L, P⟩, ?_⟩
  rintro k σ1 H1 ⟨Γ1, μ1, st1, S1, L1, P1⟩
  cases k with
  | zero => exact P1.elim
  | succ k =>
    refine tG_bS (rel := fun _ _ (a b : Bool) => a = b) S1 L1 P1 fun a b μ2 st2 H2 e2 S2 L2 r2 P2 => ?_
    subst r2
    cases a with
    | false =>
      rw [if_neg Bool.false_ne_true]
      exact P2.next S2 L2
    | true =>
      rw [if_pos rfl] at P2 ⊢
      refine ⟨fun σ' H' => tS p W (sWhile mc mb k) E σ' H', fun σ' H' q => ⟨k, Nat.lt_succ_self k, q⟩, Γ1, μ2, st2, S2, L2, ?_⟩
      cases hm : mb Γ1 μ2 with
      | none => simp only [hm] at P2; exact P2
      | some r =>
        simp only [hm] at P2
        cases r with
        | nx Γ' μ' => exact fun st' σ' H' e' S' L' => ⟨Γ', μ', st', S', L', P2.ext e'⟩
        | ct Γ' μ' => exact fun st' σ' H' e' S' L' => ⟨Γ', μ', st', S', L', P2.ext e'⟩
        | bk Γ' μ' => exact P2
        | rt _ _ => exact P2
        | exc _ _ _ _ => exact P2
end
end Ab

set_option maxRecDepth 100000
set_option maxHeartbeats 1000000
namespace Ab
open PySem L2

/-! ### what is walked -/
inductive Src where
  | fix (ds : List D) | cel (k : Nat) | enu (k : Nat)
def Src.item (μ : Sto) (i : Nat) : Src → Option (Option D)
  | .fix ds => some ds[i]?
  | .cel k => match μ[k]? with | some (.lst ds) => some ds[i]? | _ => none
  | .enu k => match μ[k]? with | some (.lst ds) => some ((ds[i]?).map fun d => .tup [.int (i : Int), d]) | _ => none
def Src.fuel (μ : Sto) : Src → Nat
  | .fix ds => ds.length + 1
  | .cel k => match μ[k]? with | some (.lst ds) => ds.length + 1 | _ => 1
  | .enu k => match μ[k]? with | some (.lst ds) => ds.length + 1 | _ => 1
def ItOk (p : Par) (st : Wd) (H : Hp) (s : Src) (J : It) : Prop := ∀ st' H' μ' i, Ext p st H st' H' → Sim p st' μ' H' →
  match s.item μ' i with
  | some none => J.stop i H'
  | some (some d) => J.go i H' ∧ ∀ x H'', J.yld i H' x H'' → ∃ st'', Ext p st' H' st'' H'' ∧ Sim p st'' μ' H'' ∧ RD p st'' H'' d x
  | none => True
def AI (p : Par) (X : Cx) (W : WX) (tg e : Expr) (m : M Src) : Prop := X.K = p.K ∧ PI X tg e (tG p W (ItOk p) m)
theorem PI.imp {X : Cx} {tg e : Expr} {t t' : TI} (h : PI X tg e t) (i : ∀ σ H R, t' σ H R → t σ H R) : PI X tg e t' := ⟨fun pins s σ H R I q => h.run pins s σ H R I (i σ H R q)⟩
theorem PI.or {X : Cx} {tg e : Expr} {t t' : TI} (h : PI X tg e t) (h' : PI X tg e t') : PI X tg e (fun σ H R => t σ H R ∨ t' σ H R) := ⟨fun pins s σ H R I q => q.elim (h.run pins s σ H R I) (h'.run pins s σ H R I)⟩

section
variable {p : Par} {X : Cx} {W : WX} {pos pp : Pos} {tg e : Expr} {me : M D} {ma : M (List D)}
/-- a list, a tuple, a text, the script, by its value -/
def srcOf (d : D) : M Src := fun _ μ => match d with
  | .lst ds => some (.ok (.fix ds) μ)
  | .tup ds => some (.ok (.fix ds) μ)
  | .str l => some (.ok (.fix (l.map fun c => .str [c])) μ)
  | .ro ns => some (.ok (.fix (ns.map .int)) μ)
  | .ref k => match μ[k]? with | some (.lst _) => some (.ok (.cel k) μ) | _ => none
  | _ => none
def iSrc (m : M D) : M Src := bnd m srcOf
theorem itOk_seq {st : Wd} {H : Hp} {a : Addr} {ds : List D} {vs : List V} (h : ∀ st' H', Ext p st H st' H' → SqL p.K H' a vs) (r : RDs p st H ds vs) : ItOk p st H (.fix ds) (Itl p.K a) := by
  intro st' H' μ' i e' S'
  have h' := h st' H' e'
  simp only [Src.item]
  cases hd : ds[i]? with
  | none => exact ⟨vs, h', by rw [← r.length]; exact List.getElem?_eq_none_iff.mp hd⟩
  | some d =>
    obtain ⟨v, hv, rv⟩ := r.get hd
    refine ⟨⟨vs, v, h', hv⟩, fun x H'' y => ?_⟩
    obtain ⟨e1, y⟩ := y
    subst e1
    have hx := y vs h'
    rw [hv] at hx
    cases hx
    exact ⟨st', Ext.refl, S', rv.mono e'⟩
theorem itOk_tup {st : Wd} {H : Hp} {a : Addr} {ds : List D} {vs : List V} (h : SqT p.K H a vs) (r : RDs p st H ds vs) : ItOk p st H (.fix ds) (Itt p.K a) := by
  intro st' H' μ' i e' S'
  have h' := e'.tp a vs h
  simp only [Src.item]
  cases hd : ds[i]? with
  | none => exact ⟨vs, h', by rw [← r.length]; exact List.getElem?_eq_none_iff.mp hd⟩
  | some d =>
    obtain ⟨v, hv, rv⟩ := r.get hd
    refine ⟨⟨vs, v, h', hv⟩, fun x H'' y => ?_⟩
    obtain ⟨e1, y⟩ := y
    subst e1
    have hx := y vs h'
    rw [hv] at hx
    cases hx
    exact ⟨st', Ext.refl, S', rv.mono e'⟩
theorem itOk_str {st : Wd} {H : Hp} {l : List Nat} : ItOk p st H (.fix (l.map fun c => .str [c])) (Its (mkS l)) := by
  intro st' H' μ' i e' S'
  have hs : (mkS l).cps.size = l.length := by simp [mkS]
  simp only [Src.item, List.getElem?_map]
  cases hd : l[i]? with
  | none => exact (by rw [hs]; exact List.getElem?_eq_none_iff.mp hd : (mkS l).cps.size ≤ i)
  | some c =>
    refine ⟨by show i < (mkS l).cps.size; rw [hs]; exact (List.getElem?_eq_some_iff.mp hd).1, fun x H'' y => ?_⟩
    obtain ⟨e1, c', hc, e2⟩ := y
    subst e1
    have : (mkS l).cps[i]? = l[i]? := by simp [mkS]
    rw [this, hd] at hc
    cases hc
    exact ⟨st', Ext.refl, S', by simp only [RD]; exact ⟨e2, by show 1 ≤ sizeLine; decide⟩⟩
theorem itOk_cel {st : Wd} {H : Hp} {a : Addr} {k : Nat} (h : st.φ[k]? = some a) : ItOk p st H (.cel k) (Itl p.K a) := by
  intro st' H' μ' i e' S'
  have h' := e'.get h
  simp only [Src.item]
  cases hk : μ'[k]? with
  | none => trivial
  | some o =>
    cases o with
    | lst ds =>
      obtain ⟨ho, h2, r2⟩ := S'.cel k a _ h' hk
      obtain ⟨vs, e2, r⟩ := r2
      subst e2
      dsimp only
      cases hd : ds[i]? with
      | none => exact ⟨vs, SqL.of h2, by rw [← r.length]; exact List.getElem?_eq_none_iff.mp hd⟩
      | some d =>
        obtain ⟨v, hv, rv⟩ := r.get hd
        refine ⟨⟨vs, v, SqL.of h2, hv⟩, fun x H'' y => ?_⟩
        obtain ⟨e1, y⟩ := y
        subst e1
        have hx := y vs (SqL.of h2)
        rw [hv] at hx
        cases hx
        exact ⟨st', Ext.refl, S', rv⟩
    | _ => trivial
/-- for x in e, e a list, tuple or text -/
theorem ai_val (h : AE p X W e me) : AI p X W tg e (iSrc me) := by
  refine ⟨h.1, PI.imp (PI.or (PI.or (pi_list h.2) (pi_tup h.2)) (pi_str h.2)) fun σ H R ⟨Γ, μ, st, S, L, P⟩ => ?_⟩
  have base : ∀ {Q1 : VK}, (∀ d v μ' st' H', Ext p st H st' H' → Sim p st' μ' H' → RD p st' H' d v → me Γ μ = some (.ok d μ') → Post p W (ItOk p) st' σ H' (srcOf d Γ μ') R → Q1 v H') → tA p W me σ H Q1 := by
    intro Q1 hk
    refine ⟨Γ, μ, st, S, L, ?_⟩
    unfold Post iSrc bnd at *
    cases hm : me Γ μ with
    | none => rw [hm] at P; exact P
    | some r =>
      rw [hm] at P
      cases r with
      | exc c ds μ' => exact P
      | ok d μ' => exact fun st' H' v e' S' r' => hk d v μ' st' H' e' S' r' hm (Post.ext (show Post p W (ItOk p) st σ H (srcOf d Γ μ') R from P) e')
  cases hm : me Γ μ with
  | none =>
    have P' := P
    unfold Post iSrc bnd at P'
    rw [hm] at P'
    exact P'.elim
  | some r =>
    cases r with
    | exc c ds μ' => exact .inl (.inl (base fun d v μ1 st1 H1 e1 S1 r1 hq P1 => by rw [hm] at hq; cases hq))
    | ok d0 μ0 =>
      cases d0 with
      | lst ds =>
        refine .inl (.inl (base fun d v μ1 st1 H1 e1 S1 r1 hq P1 => ?_))
        rw [hm] at hq; cases hq
        simp only [RD] at r1
        obtain ⟨a, vs, e2, h1, h2⟩ := r1
        rw [h.1]
        exact ⟨a, e2, ⟨vs, SqL.of h1.2⟩, P1 st1 H1 _ Ext.refl S1 (itOk_seq (fun st' H' e' => SqL.of ((e'.fz a h1.1).trans h1.2)) h2)⟩
      | tup ds =>
        refine .inl (.inr (base fun d v μ1 st1 H1 e1 S1 r1 hq P1 => ?_))
        rw [hm] at hq; cases hq
        simp only [RD] at r1
        obtain ⟨a, vs, e2, h1, h2⟩ := r1
        rw [h.1]
        exact ⟨a, e2, ⟨vs, h1⟩, P1 st1 H1 _ Ext.refl S1 (itOk_tup h1 h2)⟩
      | str l =>
        refine .inr (base fun d v μ1 st1 H1 e1 S1 r1 hq P1 => ?_)
        rw [hm] at hq; cases hq
        simp only [RD] at r1
        exact ⟨mkS l, r1.1, P1 st1 H1 _ Ext.refl S1 itOk_str⟩
      | ro ns =>
        refine .inl (.inl (base fun d v μ1 st1 H1 e1 S1 r1 hq P1 => ?_))
        rw [hm] at hq; cases hq
        simp only [RD] at r1
        obtain ⟨a, e2, h1⟩ := r1
        have r : ∀ ns : List Int, RDs p st1 H1 (ns.map .int) (ns.map V.int) := by
          intro ns
          induction ns with
          | nil => exact RDs.nil
          | cons n ns ih => exact RDs.cons (by simp [RD]) ih
        rw [h.1]
        exact ⟨a, e2, ⟨_, h1.sq⟩, P1 st1 H1 _ Ext.refl S1 (itOk_seq (fun st' H' e' => h1.elim (fun h => .inl (e'.rd h.1 h.2)) .inr) (r ns))⟩
      | ref k =>
        refine .inl (.inl (base fun d v μ1 st1 H1 e1 S1 r1 hq P1 => ?_))
        rw [hm] at hq; cases hq
        have r1' := r1
        simp only [RD] at r1
        obtain ⟨a, e2, h1⟩ := r1
        unfold srcOf at P1
        cases hk : μ0[k]? with
        | none => simp only [hk] at P1; exact P1.elim
        | some o =>
          cases o with
          | lst ds =>
            simp only [hk] at P1
            obtain ⟨a', vs, e3, h2, h3, h4⟩ := cell_lst S1 r1' hk
            rw [e2] at e3; cases e3
            rw [h.1]
            exact ⟨a, e2, ⟨vs, SqL.of h3⟩, P1 st1 H1 _ Ext.refl S1 (itOk_cel h1)⟩
          | _ => simp only [hk] at P1; exact P1.elim
      | _ =>
        refine .inl (.inl (base fun d v μ1 st1 H1 e1 S1 r1 hq P1 => ?_))
        rw [hm] at hq; cases hq
        exact P1.elim
/-- range -/
def intsD (lo : Int) (n : Nat) : List D := (List.range n).map fun (i : Nat) => D.int (lo + (i : Int))
theorem itOk_rng {st : Wd} {H : Hp} {lo : Int} {n : Nat} : ItOk p st H (.fix (intsD lo n)) (Itr lo n) := by
  intro st' H' μ' i e' S'
  simp only [Src.item, intsD, List.getElem?_map]
  by_cases hi : i < n
  · rw [List.getElem?_range hi]
    refine ⟨hi, fun x H'' y => ?_⟩
    obtain ⟨e1, e2⟩ := y
    subst e1; subst e2
    exact ⟨st', Ext.refl, S', by simp [RD]⟩
  · rw [List.getElem?_eq_none_iff.mpr (by simpa using Nat.le_of_not_lt hi)]
    exact (Nat.le_of_not_lt hi : n ≤ i)
def rng1 : List D → M Src
  | [.int j] => fun _ μ => if j ≤ 1000000 ∧ -1000000 ≤ j then some (.ok (.fix (intsD 0 j.toNat)) μ) else none
  | _ => fun _ _ => none
def rng2 : List D → M Src
  | [.int i, .int j] => fun _ μ => if j ≤ 1000000 ∧ -1000000 ≤ j ∧ i ≤ 1000000 ∧ -1000000 ≤ i then some (.ok (.fix (intsD i (j - i).toNat)) μ) else none
  | _ => fun _ _ => none
def iRng1' (m : M (List D)) : M Src := bnd m rng1
def iRng2' (m : M (List D)) : M Src := bnd m rng2
theorem ai_rng1 {a : Expr} (hg : Gl X "range") (hm : X.mg "range" = none) (ha : AA p X W [a] ma) (hs : starEach [a] X.env = [(false, eval a X.env)] := by rfl) : AI p X W tg (.Call (.Name "range" pp) [a] [] pos) (iRng1' ma) := by
  refine ⟨ha.1, PI.imp (pi_range1 hg hm ha.2 hs) fun σ H R ⟨Γ, μ, st, S, L, P⟩ => ?_⟩
  refine tG_bndE (rel := RDs p) S L P fun xs vs μ1 st1 H1 e1 S1 L1 r1 P1 => ?_
  unfold rng1 at P1
  split at P1
  · rename_i j
    split at P1
    · rename_i hj
      obtain ⟨v, e2, h1⟩ := rd1 r1
      simp only [RD] at h1
      subst h1
      exact ⟨j, e2, by omega, by omega, P1 st1 H1 _ Ext.refl S1 itOk_rng⟩
    · exact P1.elim
  · exact P1.elim
theorem ai_rng2 {a b : Expr} (hg : Gl X "range") (hm : X.mg "range" = none) (ha : AA p X W [a, b] ma) (hs : starEach [a, b] X.env = [(false, eval a X.env), (false, eval b X.env)] := by rfl) (hs2 : starEach [b] X.env = [(false, eval b X.env)] := by rfl) : AI p X W tg (.Call (.Name "range" pp) [a, b] [] pos) (iRng2' ma) := by
  refine ⟨ha.1, PI.imp (pi_range2 hg hm ha.2 hs hs2) fun σ H R ⟨Γ, μ, st, S, L, P⟩ => ?_⟩
  refine tG_bndE (rel := RDs p) S L P fun xs vs μ1 st1 H1 e1 S1 L1 r1 P1 => ?_
  unfold rng2 at P1
  split at P1
  · rename_i i j
    split at P1
    · rename_i hj
      obtain ⟨v, w, e2, h1, h2⟩ := rd2 r1
      simp only [RD] at h1 h2
      subst h1; subst h2
      exact ⟨i, j, e2, ⟨by omega, by omega, by omega, by omega⟩, P1 st1 H1 _ Ext.refl S1 itOk_rng⟩
    · exact P1.elim
  · exact P1.elim
/-- enumerate(list) -/
def enuF (ds : List D) : List D := (List.range ds.length).zipWith (fun (i : Nat) d => D.tup [.int (i : Int), d]) ds
theorem enuF_get (ds : List D) (i : Nat) : (enuF ds)[i]? = (ds[i]?).map fun d => D.tup [.int (i : Int), d] := by
  unfold enuF
  rw [List.getElem?_zipWith]
  by_cases hi : i < ds.length
  · rw [List.getElem?_range hi, List.getElem?_eq_getElem hi]; rfl
  · rw [List.getElem?_eq_none_iff.mpr (by simpa using Nat.le_of_not_lt hi), List.getElem?_eq_none_iff.mpr (Nat.le_of_not_lt hi)]; rfl
def enu1 : List D → M Src
  | [.lst ds] => fun _ μ => some (.ok (.fix (enuF ds)) μ)
  | [.ref k] => fun _ μ => match μ[k]? with | some (.lst _) => some (.ok (.enu k) μ) | _ => none
  | _ => fun _ _ => none
def iEnu (m : M (List D)) : M Src := bnd m enu1
theorem enu_yld {st' : Wd} {H' H'' : Hp} {μ' : Sto} {a : Addr} {i : Nat} {d : D} {vs : List V} {x v : V} (S' : Sim p st' μ' H') (hq : SqL p.K H' a vs) (hv : vs[i]? = some v) (rv : RD p st' H' d v) (y : (Ite p.K a).yld i H' x H'') :
    ∃ st'', Ext p st' H' st'' H'' ∧ Sim p st'' μ' H'' ∧ RD p st'' H'' (.tup [.int (i : Int), d]) x := by
  obtain ⟨T, u, e1, hT, e2, y⟩ := y
  have hu := y vs hq
  rw [hv] at hu
  cases hu
  subst e1; subst e2
  obtain ⟨a1, a2, a3⟩ := new_tup S' hT (RDs.cons (by simp [RD] : RD p st' H' (.int (i : Int)) (.int (i : Nat))) (RDs.one rv))
  exact ⟨st', a1, a2, a3⟩
theorem ai_enu {elts : List Expr} {kk : Nat} {tpos : Pos} (hg : Gl X "enumerate") (hm : X.mg "enumerate" = none) (ha : AA p X W [e] ma) (hs : starEach [e] X.env = [(false, eval e X.env)] := by rfl) : AI p X W (.Tuple elts kk tpos) (.Call (.Name "enumerate" pp) [e] [] pos) (iEnu ma) := by
  refine ⟨ha.1, PI.imp (pi_enum hg hm ha.2 hs) fun σ H R ⟨Γ, μ, st, S, L, P⟩ => ?_⟩
  refine tG_bndE (rel := RDs p) S L P fun xs vs μ1 st1 H1 e1 S1 L1 r1 P1 => ?_
  unfold enu1 at P1
  split at P1
  · rename_i ds
    obtain ⟨v, e2, h1⟩ := rd1 r1
    simp only [RD] at h1
    obtain ⟨a, ws, e3, h2, h3⟩ := h1
    subst e3
    rw [ha.1]
    refine ⟨a, ws, e2, SqL.of h2.2, P1 st1 H1 _ Ext.refl S1 fun st' H' μ' i e' S' => ?_⟩
    have hq : SqL p.K H' a ws := SqL.of ((e'.fz a h2.1).trans h2.2)
    simp only [Src.item, enuF_get]
    cases hd : ds[i]? with
    | none => exact ⟨ws, hq, by rw [← h3.length]; exact List.getElem?_eq_none_iff.mp hd⟩
    | some d =>
      obtain ⟨w, hw, rw'⟩ := h3.get hd
      exact ⟨⟨ws, w, hq, hw⟩, fun x H'' y => enu_yld S' hq hw (rw'.mono e') y⟩
  · rename_i k
    obtain ⟨v, e2, h1⟩ := rd1 r1
    have h1' := h1
    simp only [RD] at h1
    obtain ⟨a, e3, h2⟩ := h1
    subst e3
    cases hk : μ1[k]? with
    | none => simp only [hk] at P1; exact P1.elim
    | some o =>
      cases o with
      | lst ds =>
        simp only [hk] at P1
        obtain ⟨a', ws, e3, h5, h6, h7⟩ := cell_lst S1 h1' hk
        cases e3
        rw [ha.1]
        refine ⟨a, ws, e2, SqL.of h6, P1 st1 H1 _ Ext.refl S1 fun st' H' μ' i e' S' => ?_⟩
        have h' := e'.get h2
        simp only [Src.item]
        cases hk' : μ'[k]? with
        | none => trivial
        | some o' =>
          cases o' with
          | lst ds' =>
            obtain ⟨ho, h8, r8⟩ := S'.cel k a _ h' hk'
            obtain ⟨us, e4, r⟩ := r8
            subst e4
            dsimp only
            cases hd : ds'[i]? with
            | none => exact ⟨us, SqL.of h8, by rw [← r.length]; exact List.getElem?_eq_none_iff.mp hd⟩
            | some d =>
              obtain ⟨w, hw, rw'⟩ := r.get hd
              exact ⟨⟨us, w, SqL.of h8, hw⟩, fun x H'' y => enu_yld S' (SqL.of h8) hw rw' y⟩
          | _ => trivial
      | _ => simp only [hk] at P1; exact P1.elim
  · exact P1.elim

/-! ### for -/
def forLoop (s : Src) (g : GM) (b : SM) : Nat → Nat → SM
  | 0, _ => fun _ _ => none
  | n + 1, i => fun Γ μ => match s.item μ i with
    | none => none
    | some none => some (.nx Γ μ)
    | some (some d) => match sSeq (g d) b Γ μ with
      | some (.nx Γ' μ') => forLoop s g b n (i + 1) Γ' μ'
      | some (.ct Γ' μ') => forLoop s g b n (i + 1) Γ' μ'
      | some (.bk Γ' μ') => some (.nx Γ' μ')
      | r => r
def sFor (m : M Src) (g : GM) (b : SM) : SM := bS m fun s Γ μ => forLoop s g b (s.fuel μ) 0 Γ μ
theorem as_for {iter : Expr} {body : List Stmt} {mi : M Src} {g : GM} {mb : SM} (hp : PassesOwn (model X.prog X.w) X.A X.env X.xe) (hc : X.calm = true) (hi : AI p X W tg iter mi) (hg : AG p X W tg g) (on : OnlyNx g) (hb : ASs p X W body mb)
    (hs : ∀ x, foldedSetIterable iter X.env x = pure x := by intro _; rfl) : AS p X W (.For tg iter body [] pos) (sFor mi g mb) := by
  refine ⟨hi.1, PS.imp (ps_for hp hc hi.2 hg.2 hb.2 hs) fun E σ H ⟨Γ, μ, st, S, L, P⟩ => tG_bS (rel := ItOk p) S L P fun s J μ1 st1 H1 e1 S1 L1 r1 P1 => ?_⟩
  refine ⟨fun i m σ' H' => ∃ st', Ext p st1 H1 st' H' ∧ ∃ Γ' μ', Sim p st' μ' H' ∧ Sl p st' H' Γ' σ' ∧ PostS p W E st' H' (forLoop s g mb m i Γ' μ'), ⟨s.fuel μ1, st1, Ext.refl, Γ, μ1, S1, L1, P1⟩, ?_⟩
  rintro i m σ2 H2 ⟨st2, e2, Γ2, μ2, S2, L2, P2⟩
  cases m with
  | zero => exact P2.elim
  | succ m =>
    have hI := r1 st2 H2 μ2 i e2 S2
    unfold forLoop at P2
    cases hit : s.item μ2 i with
    | none => simp only [hit] at P2; exact P2.elim
    | some o =>
      cases o with
      | none =>
        simp only [hit] at P2 hI
        exact .inl ⟨hI, P2.next S2 L2⟩
      | some d =>
        simp only [hit] at P2 hI
        refine .inr ⟨hI.1, fun σ' H' => ∃ st', Ext p st1 H1 st' H' ∧ ∃ Γ' μ', Sim p st' μ' H' ∧ Sl p st' H' Γ' σ' ∧ PostS p W E st' H' (forLoop s g mb m (i + 1) Γ' μ'), fun σ' H' q => ⟨m, Nat.lt_succ_self m, q⟩, fun x H3 y => ?_⟩
        obtain ⟨st3, e3, S3, rd⟩ := hI.2 x H3 y
        refine ⟨Γ2, μ2, st3, d, S3, L2.mono e3, rd, ?_⟩
        have P3 := P2.ext e3
        unfold sSeq at P3
        have on1 := on d Γ2 μ2
        cases hg2 : g d Γ2 μ2 with
        | none => simp only [hg2] at P3; exact P3
        | some q =>
          rw [hg2] at on1
          cases q with
          | nx Γ4 μ4 =>
            simp only [hg2] at P3
            intro st4 σ4 H4 e4 S4 L4
            refine ⟨Γ4, μ4, st4, S4, L4, ?_⟩
            cases hm : mb Γ4 μ4 with
            | none => simp only [hm] at P3; exact P3
            | some r =>
              simp only [hm] at P3
              cases r with
              | nx Γ5 μ5 => exact fun st5 σ5 H5 e5 S5 L5 => ⟨st5, (e2.trans e3).trans (e4.trans e5), Γ5, μ5, S5, L5, P3.ext (e4.trans e5)⟩
              | ct Γ5 μ5 => exact fun st5 σ5 H5 e5 S5 L5 => ⟨st5, (e2.trans e3).trans (e4.trans e5), Γ5, μ5, S5, L5, P3.ext (e4.trans e5)⟩
              | bk Γ5 μ5 => exact P3.ext e4
              | rt _ _ => exact P3.ext e4
              | exc _ _ _ _ => exact P3.ext e4
          | _ => exact on1.elim

/-! ### list comprehensions -/
/-- the slots of the target -/
inductive CT where
  | nm (i : Nat) | tp (is : List Nat)
def gNames : List Nat → TGs
  | [] => gNil
  | i :: r => gCons (gName i) (gNames r)
def CT.gt (K : PySem.W.Frag) : CT → TG
  | .nm i => gName i
  | .tp is => gTup K is.length (gNames is)
def setAll : List Nat → List D → Env' → Env'
  | i :: is, d :: ds, Γ => setAll is ds (Γ.set i (some d))
  | _, _, Γ => Γ
def CT.set : CT → D → Env' → Option Env'
  | .nm i, d, Γ => some (Γ.set i (some d))
  | .tp is, .tup ds, Γ => if ds.length = is.length then some (setAll is ds Γ) else none
  | .tp _, _, _ => none
def CT.own : CT → List Nat
  | .nm i => [i]
  | .tp is => is
def wipeD (Γ : Env') : List Nat → Env'
  | [] => Γ
  | v :: vs => (wipeD Γ vs).set v none
theorem Sl.wipe {st : Wd} {H : Hp} {Γ : Env'} {σ : L2.St} (h : Sl p st H Γ σ) : ∀ vs : List Nat, Sl p st H (wipeD Γ vs) (L2.wipe σ vs)
  | [] => h
  | v :: vs => by
    have ih := Sl.wipe h vs
    refine ⟨by simp [wipeD, L2.wipe, ih.1], fun i d q => ?_⟩
    simp only [wipeD] at q
    by_cases hi : v = i
    · subst hi
      by_cases hl : v < (wipeD Γ vs).length
      · rw [List.getElem?_set_self hl] at q; cases q
      · rw [List.getElem?_eq_none_iff.mpr (by simpa using Nat.le_of_not_lt hl)] at q; cases q
    · rw [List.getElem?_set_ne hi] at q
      obtain ⟨w, h1, h2⟩ := ih.2 i d q
      exact ⟨w, by simp only [L2.wipe]; rw [List.getElem?_set_ne hi]; exact h1, h2⟩
theorem wipe_set_in {σ : L2.St} {i : Nat} {o : Option V} : ∀ {vs : List Nat}, i ∈ vs → L2.wipe (σ.set i o) vs = L2.wipe σ vs
  | [], h => by simp at h
  | v :: vs, h => by
    by_cases hi : i ∈ vs
    · simp only [L2.wipe]; rw [wipe_set_in hi]
    · have e : i = v := by simpa [hi] using h
      subst e
      simp only [L2.wipe]
      have : ∀ (ws : List Nat), i ∉ ws → L2.wipe (σ.set i o) ws = (L2.wipe σ ws).set i o := by
        intro ws
        induction ws with
        | nil => intro _; rfl
        | cons w ws ih =>
          intro hw
          simp only [List.mem_cons, not_or] at hw
          simp only [L2.wipe]
          rw [ih hw.2, List.set_comm _ _ hw.1]
      rw [this vs hi, List.set_set]
theorem wipe_wipe (σ : L2.St) : ∀ (vs ws : List Nat), (∀ v ∈ vs, v ∈ ws) → L2.wipe (L2.wipe σ vs) ws = L2.wipe σ ws
  | [], _, _ => rfl
  | v :: vs, ws, h => by
    simp only [L2.wipe]
    rw [wipe_set_in (h v List.mem_cons_self), wipe_wipe σ vs ws fun w hw => h w (List.mem_cons_of_mem _ hw)]
theorem gNames_ok {st : Wd} {H : Hp} {vs0 : List Nat} {σ0 : L2.St} {Q : L2.St → Hp → Prop} : ∀ {is : List Nat} {ds : List D} {vs : List V} {Γ : Env'} {σ : L2.St}, ds.length = is.length → RDs p st H ds vs → Sl p st H Γ σ → (∀ i ∈ is, i ∈ vs0) → L2.wipe σ vs0 = L2.wipe σ0 vs0 →
    (∀ σ', Sl p st H (setAll is ds Γ) σ' → L2.wipe σ' vs0 = L2.wipe σ0 vs0 → Q σ' H) → gNames is vs σ H Q
  | [], [], _, Γ, σ, _, r, L, _, hw, k => by
    simp only [RDs] at r
    exact ⟨r, k σ L hw⟩
  | i :: is, d :: ds, _, Γ, σ, hl, r, L, hi, hw, k => by
    obtain ⟨v, w, e1, h1, h2⟩ := r.of_cons
    subst e1
    refine ⟨v, w, rfl, ?_⟩
    exact gNames_ok (by simpa using hl) h2 (L.set h1) (fun j hj => hi j (List.mem_cons_of_mem _ hj)) (by rw [wipe_set_in (hi i List.mem_cons_self)]; exact hw) k
theorem ct_ok {st : Wd} {H : Hp} {c : CT} {d : D} {v : V} {Γ Γ' : Env'} {σ σ0 : L2.St} {vs0 : List Nat} {Q : L2.St → Hp → Prop} (r : RD p st H d v) (L : Sl p st H Γ σ) (hi : ∀ i ∈ c.own, i ∈ vs0) (hw : L2.wipe σ vs0 = L2.wipe σ0 vs0) (h : c.set d Γ = some Γ')
    (k : ∀ σ', Sl p st H Γ' σ' → L2.wipe σ' vs0 = L2.wipe σ0 vs0 → Q σ' H) : c.gt p.K v σ H Q := by
  cases c with
  | nm i =>
    simp only [CT.set, Option.some.injEq] at h
    subst h
    exact k _ (L.set r) (by rw [wipe_set_in (hi i (by simp [CT.own]))]; exact hw)
  | tp is =>
    cases d with
    | tup ds =>
      simp only [CT.set] at h
      split at h
      · rename_i hl
        cases h
        simp only [RD] at r
        obtain ⟨a, vs, e1, h1, h2⟩ := r
        exact ⟨a, vs, e1, h1, by rw [← h2.length]; exact hl, gNames_ok hl h2 L hi hw k⟩
      · cases h
    | _ => simp [CT.set] at h
def lcLoop (s : Src) (c : CT) (tt : M Bool) (te : M D) (Γ : Env') : Nat → Nat → List D → Sto → Option (List D × Sto)
  | 0, _, _, _ => none
  | n + 1, i, acc, μ => match s.item μ i with
    | none => none
    | some none => some (acc, μ)
    | some (some d) => match c.set d Γ with
      | none => none
      | some Γ1 => match tt Γ1 μ with
        | some (.ok true μ2) => match te Γ1 μ2 with
          | some (.ok y μ3) => if acc.length < big then lcLoop s c tt te Γ n (i + 1) (acc ++ [y]) μ3 else none
          | _ => none
        | some (.ok false μ2) => lcLoop s c tt te Γ n (i + 1) acc μ2
        | _ => none
def eLc (cm : Bool) (m : M Src) (c : CT) (own : List Nat) (tt : M Bool) (te : M D) : M D := bnd m fun s Γ μ => match lcLoop s c tt te (wipeD Γ own) (s.fuel μ) 0 [] μ with
  | some (ds, μ') => some (.ok (fin cm μ' (.l ds)).1 (fin cm μ' (.l ds)).2)
  | none => none
abbrev W0 : WX := fun _ _ _ _ => False
def mYes : M Bool := ret true
def ATs (p : Par) (X : Cx) (W : WX) (es : List Expr) (m : M Bool) : Prop := X.K = p.K ∧ PTs X es (tT p W m)
theorem PTs.imp {X : Cx} {e : List Expr} {t t' : TT} (h : PTs X e t) (i : ∀ σ H Q, t' σ H Q → t σ H Q) : PTs X e t' := ⟨fun pins s σ H Q I q => h.run pins s σ H Q I (i σ H Q q)⟩
theorem ats_nil (hK : X.K = p.K) : ATs p X W [] mYes := ⟨hK, PTs.imp pts_nil fun σ H Q ⟨Γ, μ, st, S, L, P⟩ => P st H _ Ext.refl S rfl⟩
theorem ats_one {m : M Bool} (h : AT p X W e m) : ATs p X W [e] m := ⟨h.1, pts_one h.2⟩
/-- the made list is handed on -/
theorem beside_fin {cm : Bool} {st0 st : Wd} {μ : Sto} {H0 H : Hp} {q : Addr} {ds : List D} {vs : List V} {Q : VK} (e : Ext p st0 H0 st H) (h0 : H0 q = none) (S : Sim p st μ H) (nφ : q ∉ st.φ) (nF : ¬ st.F q) (hq : H q = some (.lst vs)) (r : RDs p st H ds vs)
    (k : ∀ st' H' u, Ext p st0 H0 st' H' → Sim p st' (fin cm μ (.l ds)).2 H' → RD p st' H' (fin cm μ (.l ds)).1 u → Q u H') : Q (.ref q) H := by
  cases cm with
  | false =>
    have E : ExtR p st H (st.frz q) H := ⟨List.prefix_rfl, fun _ h => .inl h, fun _ _ => rfl, fun _ _ h => h⟩
    exact k _ H _ (e.besideF h0) (S.besideF nφ hq) (by show RD p (st.frz q) H (.lst ds) (.ref q); simp only [RD]; exact ⟨q, vs, rfl, ⟨.inr rfl, hq⟩, r.monoR E⟩)
  | true =>
    refine k _ H _ (e.besideC h0) (S.besideC nφ nF hq r) ?_
    show RD p (st.add q) H (.ref μ.length) (.ref q)
    simp only [RD]
    exact ⟨q, rfl, by show (st.φ ++ [q])[μ.length]? = some q; rw [← S.len]; simp⟩
theorem lc_ok {cm : Bool} {J : It} {s : Src} {c : CT} {own : List Nat} {tt : M Bool} {te : M D} {st : Wd} {μ : Sto} {H : Hp} {Γ : Env'} {σ : L2.St} {Q : VK} (S : Sim p st μ H) (L : Sl p st H Γ σ) (hI : ItOk p st H s J) (hown : ∀ i ∈ c.own, i ∈ own)
    (P : Post p W (RD p) st σ H ((match lcLoop s c tt te (wipeD Γ own) (s.fuel μ) 0 [] μ with | some (ds, μ') => some (.ok (fin cm μ' (.l ds)).1 (fin cm μ' (.l ds)).2) | none => none : R D)) Q) :
    ∀ q, H q = none → ∃ Wi : Nat → Nat → Hp → Prop, (∃ m, Wi 0 m (upd H q (.lst []))) ∧ ∀ i m H', Wi i m H' →
      (J.stop i H' ∧ Q (.ref q) H') ∨ (J.go i H' ∧ ∃ Nx : Hp → Prop, (∀ H'', Nx H'' → ∃ m', m' < m ∧ Wi (i + 1) m' H'') ∧ ∀ x H'', J.yld i H' x H'' → c.gt p.K x (L2.wipe σ own) H'' fun σ2 H2 => L2.wipe σ2 own = L2.wipe σ own ∧ tT p W0 tt σ2 H2 fun b H3 =>
        if b = true then tA p W0 te σ2 H3 fun y H4 => ∃ acc, H4 q = some (.lst acc) ∧ acc.length < sizeLine ∧ Nx (upd H4 q (.lst (acc ++ [y]))) else Nx H3) := by
  intro q hq
  -- the invariant: q stands beside the cells and holds what was made; the rest of the loop ends as the whole does
  cases hfin : lcLoop s c tt te (wipeD Γ own) (s.fuel μ) 0 [] μ with
  | none => rw [hfin] at P; exact P.elim
  | some r0 =>
  rw [hfin] at P
  refine ⟨fun i m H' => ∃ st' μ' acc vs, Ext p st H st' H' ∧ Sim p st' μ' H' ∧ q ∉ st'.φ ∧ ¬ st'.F q ∧ H' q = some (.lst vs) ∧ RDs p st' H' acc vs ∧ lcLoop s c tt te (wipeD Γ own) m i acc μ' = some r0, ?_, ?_⟩
  · refine ⟨s.fuel μ, st, μ, [], [], Ext.new S hq, S.new hq, S.notin hq, fun h => ?_, upd_same, RDs.nil, hfin⟩
    obtain ⟨⟨x, hx⟩, _⟩ := S.fz q h
    rw [hq] at hx; cases hx
  · clear hfin
    rintro i m H' ⟨st', μ', acc, vs, e', S', nφ, nF, hq', ra, hl⟩
    cases m with
    | zero => cases hl
    | succ m =>
      have hJ := hI st' H' μ' i e' S'
      unfold lcLoop at hl
      cases hit : s.item μ' i with
      | none => simp only [hit] at hl; cases hl
      | some o =>
        cases o with
        | none =>
          simp only [hit] at hl hJ
          cases hl
          exact .inl ⟨hJ, beside_fin (cm := cm) e' hq S' nφ nF hq' ra P⟩
        | some d =>
          simp only [hit] at hl hJ
          refine .inr ⟨hJ.1, fun H'' => ∃ st' μ' acc vs, Ext p st H st' H'' ∧ Sim p st' μ' H'' ∧ q ∉ st'.φ ∧ ¬ st'.F q ∧ H'' q = some (.lst vs) ∧ RDs p st' H'' acc vs ∧ lcLoop s c tt te (wipeD Γ own) m (i + 1) acc μ' = some r0, fun H'' h => ⟨m, Nat.lt_succ_self m, h⟩, fun x H2 y => ?_⟩
          obtain ⟨st2, e2, S2, rd⟩ := hJ.2 x H2 y
          have nφ2 : q ∉ st2.φ := fun h => (e2.nw q h).elim nφ (by rw [hq']; intro z; cases z)
          have nF2 : ¬ st2.F q := fun h => (e2.nF q h).elim nF fun z => z.elim nφ (by rw [hq']; intro z; cases z)
          have hq2 : H2 q = some (.lst vs) := (e2.kp q nφ (by rw [hq']; intro z; cases z)).trans hq'
          cases hc : c.set d (wipeD Γ own) with
          | none => simp only [hc] at hl; cases hl
          | some Γ1 =>
            simp only [hc] at hl
            refine ct_ok (σ0 := σ) rd ((L.mono (e'.trans e2)).wipe own) hown (wipe_wipe σ own own fun _ h => h) hc fun σ2 L2 hw => ⟨hw, Γ1, μ', st2, S2, L2, ?_⟩
            cases ht : tt Γ1 μ' with
            | none => simp only [ht] at hl; cases hl
            | some r =>
              cases r with
              | exc _ _ _ => simp only [ht] at hl; cases hl
              | ok b μ2 =>
                intro st3 H3 b' e3 S3 eb
                subst eb
                have nφ3 : q ∉ st3.φ := fun h => (e3.nw q h).elim nφ2 (by rw [hq2]; intro z; cases z)
                have nF3 : ¬ st3.F q := fun h => (e3.nF q h).elim nF2 fun z => z.elim nφ2 (by rw [hq2]; intro z; cases z)
                have hq3 : H3 q = some (.lst vs) := (e3.kp q nφ2 (by rw [hq2]; intro z; cases z)).trans hq2
                cases b with
                | false =>
                  simp only [ht] at hl
                  rw [if_neg Bool.false_ne_true]
                  exact ⟨st3, μ2, acc, vs, (e'.trans e2).trans e3, S3, nφ3, nF3, hq3, ra.mono (e2.trans e3), hl⟩
                | true =>
                  simp only [ht] at hl
                  rw [if_pos rfl]
                  refine ⟨Γ1, μ2, st3, S3, L2.mono e3, ?_⟩
                  cases hte : te Γ1 μ2 with
                  | none => simp only [hte] at hl; cases hl
                  | some r2 =>
                    cases r2 with
                    | exc _ _ _ => simp only [hte] at hl; cases hl
                    | ok yv μ3 =>
                      simp only [hte] at hl
                      intro st4 H4 v4 e4 S4 r4
                      have nφ4 : q ∉ st4.φ := fun h => (e4.nw q h).elim nφ3 (by rw [hq3]; intro z; cases z)
                      have nF4 : ¬ st4.F q := fun h => (e4.nF q h).elim nF3 fun z => z.elim nφ3 (by rw [hq3]; intro z; cases z)
                      have hq4 : H4 q = some (.lst vs) := (e4.kp q nφ3 (by rw [hq3]; intro z; cases z)).trans hq3
                      split at hl
                      · rename_i hlen
                        refine ⟨vs, hq4, by rw [← ra.length]; exact Nat.lt_of_lt_of_le hlen (by decide), st4, μ3, acc ++ [yv], vs ++ [v4], ?_, S4.beside nφ4 nF4 hq4, nφ4, nF4, upd_same, ?_, hl⟩
                        · exact Ext.besideW S (((e'.trans e2).trans e3).trans e4) hq hq4
                        · exact ((ra.mono ((e2.trans e3).trans e4)).append (RDs.one r4)).monoR (ExtR.beside nF4 hq4)
                      · cases hl
theorem ae_lc {elt iter : Expr} {ifs : List Expr} {scope : Scope} {own : List (Str × Nat)} {mi : M Src} {c : CT} {tt : M Bool} {te : M D} (cm : Bool) (hc : X.calm = true) (hN : X.N.Nodup) (hi : AI p X W tg iter mi) (ok : BlkOk X.N X.env.scope scope own)
    (hown : ∀ i ∈ c.own, i ∈ own.map (·.2))
    (hg : ∀ (s : Shared) (H : Hp) (C : Addr) (cl : List (Str × Addr)) (fp : List Addr), PG (X.blk s H scope (compEnvC scope cl C X.env) fp) tg (c.gt p.K))
    (ht : ∀ (s : Shared) (H : Hp) (C : Addr) (cl : List (Str × Addr)) (fp : List Addr), ATs p (X.blk s H scope (compEnvC scope cl C X.env) fp) W0 ifs tt)
    (he : ∀ (s : Shared) (H : Hp) (C : Addr) (cl : List (Str × Addr)) (fp : List Addr), AE p (X.blk s H scope (compEnvC scope cl C X.env) fp) W0 elt te) (hs : ∀ x, foldedSetIterable iter X.env x = pure x := by intro _; rfl) :
    AE p X W (.ListComp elt [⟨tg, iter, ifs, 0⟩] scope pos) (eLc cm mi c (own.map (·.2)) tt te) := by
  refine ⟨hi.1, PE.imp (pe_lc hc hN hi.2 ok hg (fun s H C cl fp => (ht s H C cl fp).2) (fun s H C cl fp => (he s H C cl fp).2) hs) fun σ H Q ⟨Γ, μ, st, S, L, P⟩ => ?_⟩
  refine tG_bndE (rel := ItOk p) S L P fun s J μ1 st1 H1 e1 S1 L1 r1 P1 => ?_
  exact lc_ok (cm := cm) S1 L1 r1 hown P1
theorem as_setLc {i : Nat} {y : Str} {py spos : Pos} {elt iter : Expr} {ifs : List Expr} {scope : Scope} {own : List (Str × Nat)} {mi : M Src} {c : CT} {tt : M Bool} {te : M D} (cm : Bool) (hc : X.calm = true) (hN : X.N.Nodup) (hy : X.N[i]? = some y) (hyl : X.env.scope.names.lookup y = some .local)
    (hsw : swapsWith (.ListComp elt [⟨tg, iter, ifs, 0⟩] scope pos) (some (.Name y py)) spos.line X.env = pure true) (hi : AI p X W tg iter mi) (ok : BlkOk X.N X.env.scope scope own)
    (hown : ∀ i ∈ c.own, i ∈ own.map (·.2))
    (hg : ∀ (s : Shared) (H : Hp) (C : Addr) (cl : List (Str × Addr)) (fp : List Addr), PG (X.blk s H scope (compEnvC scope cl C X.env) fp) tg (c.gt p.K))
    (ht : ∀ (s : Shared) (H : Hp) (C : Addr) (cl : List (Str × Addr)) (fp : List Addr), ATs p (X.blk s H scope (compEnvC scope cl C X.env) fp) W0 ifs tt)
    (he : ∀ (s : Shared) (H : Hp) (C : Addr) (cl : List (Str × Addr)) (fp : List Addr), AE p (X.blk s H scope (compEnvC scope cl C X.env) fp) W0 elt te) (hs : ∀ x, foldedSetIterable iter X.env x = pure x := by intro _; rfl) :
    AS p X W (.Assign [.Name y py] (.ListComp elt [⟨tg, iter, ifs, 0⟩] scope pos) spos) (sAsg (eLc cm mi c (own.map (·.2)) tt te) (sSet i)) := by
  refine ⟨hi.1, PS.imp (ps_setLc hc hN hy hyl hsw hi.2 ok hg (fun s H C cl fp => (ht s H C cl fp).2) (fun s H C cl fp => (he s H C cl fp).2) hs) fun E σ H ⟨Γ, μ, st, S, L, P⟩ => ?_⟩
  have h0 : tA p W (eLc cm mi c (own.map (·.2)) tt te) σ H fun x H1 => E.nx (σ.set i (some x)) H1 := tG_bS (rel := RD p) S L P fun a b μ' st' H' e' S' L' r' P' => P'.next S' (L'.set r')
  obtain ⟨Γ2, μ2, st2, S2, L2, P2⟩ := h0
  refine tG_bndE (rel := ItOk p) S2 L2 P2 fun s J μ1 st1 H1 e1 S1 L1 r1 P1 => ?_
  exact lc_ok (cm := cm) S1 L1 r1 hown P1

/-! ### a list that is read to be kept is frozen -/
def frzD (d : D) (μ : Sto) : D × Sto := match d with
  | .ref k => match μ[k]? with | some (.lst ds) => (.lst ds, μ.set k .dead) | _ => (d, μ)
  | _ => (d, μ)
def eFrz (m : M D) : M D := bnd m fun d _ μ => some (.ok (frzD d μ).1 (frzD d μ).2)
theorem frz_ok {d : D} {v : V} {μ : Sto} {st : Wd} {H : Hp} (S : Sim p st μ H) (r : RD p st H d v) : ∃ st', Ext p st H st' H ∧ Sim p st' (frzD d μ).2 H ∧ RD p st' H (frzD d μ).1 v := by
  unfold frzD
  split
  · rename_i k
    split
    · rename_i ds hk
      obtain ⟨a, vs, e1, h1, h2, h3⟩ := cell_lst S r hk
      subst e1
      refine ⟨st.frz a, Ext.kill h1, S.kill h1 hk, ?_⟩
      simp only [RD]
      exact ⟨a, vs, rfl, ⟨.inr rfl, h2⟩, h3.mono (Ext.kill h1)⟩
    · exact ⟨st, Ext.refl, S, r⟩
  · exact ⟨st, Ext.refl, S, r⟩
theorem ae_frz {m : M D} (h : AE p X W e m) : AE p X W e (eFrz m) := by
  refine ⟨h.1, PE.imp h.2 fun σ H Q ⟨Γ, μ, st, S, L, P⟩ => ?_⟩
  refine tG_bndE (rel := RD p) S L P fun d v μ1 st1 H1 e1 S1 L1 r1 P1 => ?_
  obtain ⟨st', a1, a2, a3⟩ := frz_ok S1 r1
  exact P1 st' H1 v a1 a2 a3
end
end Ab

set_option maxRecDepth 100000
set_option maxHeartbeats 1000000
namespace Ab
open PySem L2 PyProof.Rows

/-! ### refs below n -/
mutual
def refsLt (n : Nat) : D → Bool
  | .tup ds => refsLts n ds
  | .lst ds => refsLts n ds
  | .dic _ ds => refsLts n ds
  | .ref k => decide (k < n)
  | _ => true
def refsLts (n : Nat) : List D → Bool
  | [] => true
  | d :: ds => refsLt n d && refsLts n ds
end
def refsO (n : Nat) : O → Bool
  | .lst ds => refsLts n ds
  | .dic _ ds => refsLts n ds
  | .ins _ ds => refsLts n ds
  | .dead => true
section
variable {p : Par} {st st' : Wd} {H H' : Hp} {μ μ' : Sto}
mutual
theorem RD.back (e : st.φ <+: st'.φ) : ∀ {d : D} {v : V}, refsLt st.φ.length d = true → RD p st' H d v → RD p ⟨st.φ, st'.F⟩ H d v
  | .non, _, _, r => by simp only [RD] at r ⊢; exact r
  | .bl _, _, _, r => by simp only [RD] at r ⊢; exact r
  | .int _, _, _, r => by simp only [RD] at r ⊢; exact r
  | .str _, _, _, r => by simp only [RD] at r ⊢; exact r
  | .tup ds, _, h, r => by
    simp only [RD] at r ⊢
    simp only [refsLt] at h
    obtain ⟨a, vs, e1, h1, h2⟩ := r
    exact ⟨a, vs, e1, h1, RDs.back e h h2⟩
  | .lst ds, _, h, r => by
    simp only [RD] at r ⊢
    simp only [refsLt] at h
    obtain ⟨a, vs, e1, h1, h2⟩ := r
    exact ⟨a, vs, e1, h1, RDs.back e h h2⟩
  | .dic ks ds, _, h, r => by
    simp only [RD] at r ⊢
    simp only [refsLt] at h
    obtain ⟨a, vs, e1, h1, h3, h2⟩ := r
    exact ⟨a, vs, e1, h1, h3, RDs.back e h h2⟩
  | .ref k, _, h, r => by
    simp only [RD] at r ⊢
    simp only [refsLt, decide_eq_true_eq] at h
    obtain ⟨a, e1, h1⟩ := r
    obtain ⟨t, ht⟩ := e
    rw [← ht, List.getElem?_append_left h] at h1
    exact ⟨a, e1, h1⟩
  | .ro ns, _, _, r => by simp only [RD] at r ⊢; exact r
theorem RDs.back (e : st.φ <+: st'.φ) : ∀ {d : List D} {v : List V}, refsLts st.φ.length d = true → RDs p st' H d v → RDs p ⟨st.φ, st'.F⟩ H d v
  | [], _, _, r => by simp only [RDs] at r ⊢; exact r
  | d :: ds, _, h, r => by
    obtain ⟨v, w, e1, h1, h2⟩ := r.of_cons
    subst e1
    simp only [refsLts, Bool.and_eq_true] at h
    exact RDs.cons (RD.back e h.1 h1) (RDs.back e h.2 h2)
end
theorem RO.back (e : st.φ <+: st'.φ) {o : O} {ho : HO} (h : refsO st.φ.length o = true) (r : RO p st' H o ho) : RO p ⟨st.φ, st'.F⟩ H o ho := by
  cases o with
  | lst ds => obtain ⟨vs, e1, h1⟩ := r; exact ⟨vs, e1, RDs.back e h h1⟩
  | dic ks ds => obtain ⟨vs, e1, h0, h1⟩ := r; exact ⟨vs, e1, h0, RDs.back e h h1⟩
  | ins c ds => obtain ⟨dx, vs, e1, h1, h2⟩ := r; exact ⟨dx, vs, e1, RDs.back e h h1, h2⟩
  | dead => trivial
mutual
theorem RD.refs : ∀ {d : D} {v : V}, RD p st H d v → refsLt st.φ.length d = true
  | .non, _, _ => rfl
  | .bl _, _, _ => rfl
  | .int _, _, _ => rfl
  | .str _, _, _ => rfl
  | .tup ds, _, r => by
    simp only [RD] at r
    obtain ⟨a, vs, e1, h1, h2⟩ := r
    exact RDs.refs h2
  | .lst ds, _, r => by
    simp only [RD] at r
    obtain ⟨a, vs, e1, h1, h2⟩ := r
    exact RDs.refs h2
  | .dic ks ds, _, r => by
    simp only [RD] at r
    obtain ⟨a, vs, e1, h1, h3, h2⟩ := r
    exact RDs.refs h2
  | .ref k, _, r => by
    simp only [RD] at r
    obtain ⟨a, e1, h1⟩ := r
    simp only [refsLt, decide_eq_true_eq]
    exact (List.getElem?_eq_some_iff.mp h1).1
  | .ro ns, _, _ => rfl
theorem RDs.refs : ∀ {d : List D} {v : List V}, RDs p st H d v → refsLts st.φ.length d = true
  | [], _, _ => rfl
  | d :: ds, _, r => by
    obtain ⟨v, w, e1, h1, h2⟩ := r.of_cons
    simp only [refsLts, Bool.and_eq_true]
    exact ⟨RD.refs h1, RDs.refs h2⟩
end
theorem RO.refs {o : O} {ho : HO} (r : RO p st H o ho) : refsO st.φ.length o = true := by
  cases o with
  | lst ds => obtain ⟨vs, e1, h1⟩ := r; exact h1.refs
  | dic ks ds => obtain ⟨vs, e1, h0, h1⟩ := r; exact h1.refs
  | ins c ds => obtain ⟨dx, vs, e1, h1, h2⟩ := r; exact h1.refs
  | dead => rfl

/-! ### leaving a def: what was made in it is dropped where nothing hangs on it -/
/-- the cells that stood before are as before, or hold no younger cell -/
def tidy (μ μ' : Sto) : Prop := ∀ (k : Nat) o, k < μ.length → μ'[k]? = some o → μ[k]? = some o ∨ refsO μ.length o = true
/-- a young list is handed on by value -/
def leaveD (μ : Sto) (d : D) (μ' : Sto) : D := match d with
  | .ref k => if μ.length ≤ k then (match μ'[k]? with | some (.lst ds) => .lst ds | _ => d) else d
  | _ => d
open Classical in
noncomputable def leave (μ : Sto) (d : D) (μ' : Sto) : D × Sto := if μ.length ≤ μ'.length ∧ tidy μ μ' ∧ refsLt μ.length (leaveD μ d μ') = true then (leaveD μ d μ', μ'.take μ.length) else (d, μ')
open Classical in
noncomputable def leaveX (μ : Sto) (ds : List D) (μ' : Sto) : Sto := if μ.length ≤ μ'.length ∧ tidy μ μ' ∧ refsLts μ.length ds = true then μ'.take μ.length else μ'
theorem extR_or {st : Wd} {H : Hp} {G : Addr → Prop} : ExtR p ⟨st.φ, st.F⟩ H ⟨st.φ, fun b => st.F b ∨ G b⟩ H := ⟨List.prefix_rfl, fun _ h => Or.inl h, fun _ _ => rfl, fun _ _ h => h⟩
theorem extR_or' {φ : List Addr} {F G : Addr → Prop} {H : Hp} : ExtR p ⟨φ, F⟩ H ⟨φ, fun b => F b ∨ G b⟩ H := ⟨List.prefix_rfl, fun _ h => Or.inl h, fun _ _ => rfl, fun _ _ h => h⟩
theorem take_sim {μ μ' : Sto} {P : Addr → Prop} (S : Sim p st μ H) (e : Ext p st H st' H') (S' : Sim p st' μ' H') (hl : μ.length ≤ μ'.length) (ht : tidy μ μ') (hP : ∀ a, P a → (∃ ho, H' a = some ho) ∧ a ∉ st.φ) (hP0 : ∀ a, P a → st.F a ∨ a ∈ st.φ ∨ H a = none) :
    Ext p st H ⟨st.φ, fun b => st'.F b ∨ P b⟩ H' ∧ Sim p ⟨st.φ, fun b => st'.F b ∨ P b⟩ (μ'.take μ.length) H' := by
  refine ⟨⟨List.prefix_rfl, fun a h => .inl (e.F a h), e.fz, e.tp, e.xd, e.kp, fun a h => .inl h, fun a h => h.elim (e.nF a) (hP0 a)⟩, ⟨?_, S.inj, fun k a o h1 h2 => ?_, fun a h => ?_⟩⟩
  · rw [List.length_take, Nat.min_eq_left hl]; exact S.len
  · have hk : k < μ.length := by rw [← S.len]; exact (List.getElem?_eq_some_iff.mp h1).1
    rw [List.getElem?_take_of_lt hk] at h2
    obtain ⟨ho, h3, r3⟩ := S'.cel k a o (e.get h1) h2
    refine ⟨ho, h3, ?_⟩
    have hr : refsO st.φ.length o = true := by
      rcases ht k o hk h2 with h4 | h4
      · obtain ⟨ho', _, r4⟩ := S.cel k a o h1 h4
        exact r4.refs
      · rw [S.len]; exact h4
    exact (RO.back e.φ hr r3).monoR extR_or'
  · rcases h with h | h
    · obtain ⟨h1, h2⟩ := S'.fz a h
      refine ⟨h1, fun k h3 => ?_⟩
      have hk : k < μ.length := by rw [← S.len]; exact (List.getElem?_eq_some_iff.mp h3).1
      rw [List.getElem?_take_of_lt hk]
      exact h2 k (e.get h3)
    · obtain ⟨h1, h2⟩ := hP a h
      exact ⟨h1, fun k h3 => absurd (List.mem_of_getElem? h3) h2⟩
theorem leave_ok {d : D} {v : V} (S : Sim p st μ H) (e : Ext p st H st' H') (S' : Sim p st' μ' H') (r : RD p st' H' d v) : ∃ st'', Ext p st H st'' H' ∧ Sim p st'' (leave μ d μ').2 H' ∧ RD p st'' H' (leave μ d μ').1 v := by
  unfold leave
  split
  · rename_i hc
    obtain ⟨hl, ht, hr⟩ := hc
    have plain : leaveD μ d μ' = d → ∃ st'', Ext p st H st'' H' ∧ Sim p st'' (μ'.take μ.length) H' ∧ RD p st'' H' (leaveD μ d μ') v := by
      intro e0
      rw [e0] at hr ⊢
      obtain ⟨E, S2⟩ := take_sim (P := fun _ => False) S e S' hl ht (fun _ h => h.elim) (fun _ h => h.elim)
      refine ⟨_, E, S2, ?_⟩
      rw [← S.len] at hr
      exact (RD.back e.φ hr r).monoR extR_or'
    cases d with
    | ref k =>
      by_cases hk : μ.length ≤ k
      · cases hm : μ'[k]? with
        | none => exact plain (by simp only [leaveD, if_pos hk, hm])
        | some o =>
          cases o with
          | lst ds =>
            have e0 : leaveD μ (.ref k) μ' = .lst ds := by simp only [leaveD, if_pos hk, hm]
            rw [e0] at hr ⊢
            obtain ⟨a, vs, e1, h1, h2, h3⟩ := cell_lst S' r hm
            subst e1
            have na : a ∉ st.φ := fun h => by
              obtain ⟨j, hj, ej⟩ := List.mem_iff_getElem.mp h
              have h4 : st.φ[j]? = some a := by rw [List.getElem?_eq_getElem hj, ej]
              have h5 := e.get h4
              have e5 := (List.getElem?_eq_some_iff.mp h5).2
              have e6 := (List.getElem?_eq_some_iff.mp h1).2
              have := (List.getElem_inj S'.inj).mp (e5.trans e6.symm)
              rw [S.len] at hj
              omega
            have hn : H a = none := by
              rcases e.nw a (List.mem_of_getElem? h1) with h | h
              · exact absurd h na
              · exact h
            obtain ⟨E, S2⟩ := take_sim (P := fun b => b = a) S e S' hl ht (fun b hb => by subst hb; exact ⟨⟨_, h2⟩, na⟩) (fun b hb => by subst hb; exact .inr (.inr hn))
            refine ⟨_, E, S2, ?_⟩
            simp only [refsLt] at hr
            rw [← S.len] at hr
            simp only [RD]
            exact ⟨a, vs, rfl, ⟨.inr rfl, h2⟩, (RDs.back e.φ hr h3).monoR extR_or'⟩
          | _ => exact plain (by simp only [leaveD, if_pos hk, hm])
      · exact plain (by simp only [leaveD, if_neg hk])
    | _ => exact plain rfl
  · exact ⟨st', e, S', r⟩
theorem leaveX_ok {c : Nat} {ds : List D} {dd : Addr} (S : Sim p st μ H) (e : Ext p st H st' H') (S' : Sim p st' μ' H') (r : XD p st' H' c ds dd) : ∃ st'', Ext p st H st'' H' ∧ Sim p st'' (leaveX μ ds μ') H' ∧ XD p st'' H' c ds dd := by
  unfold leaveX
  split
  · rename_i hc
    obtain ⟨hl, ht, hr⟩ := hc
    obtain ⟨E, S2⟩ := take_sim (P := fun _ => False) S e S' hl ht (fun _ h => h.elim) (fun _ h => h.elim)
    refine ⟨_, E, S2, ?_⟩
    obtain ⟨vs, h1, h2, h3⟩ := r
    rw [← S.len] at hr
    exact ⟨vs, h1, (RDs.back e.φ hr h2).monoR extR_or', h3⟩
  · exact ⟨st', e, S', r⟩
end

/-! ### a def -/
abbrev Fn := List D → Sto → R D
def startD (n : Nat) (ds : List D) : Env' := ds.map some ++ List.replicate (n - ds.length) none
/-- what a body comes to: n its slots, k its parameters -/
noncomputable def body (n k : Nat) (m : SM) : Fn := fun ds μ => if ds.length = k then (match m (startD n ds) μ with
  | some (.rt d μ') => some (.ok (leave μ d μ').1 (leave μ d μ').2)
  | some (.nx _ μ') => some (.ok (leave μ .non μ').1 (leave μ .non μ').2)
  | some (.exc c xs _ μ') => some (.exc c xs (leaveX μ xs μ'))
  | _ => none) else none
def WofE (E : XK) : WX := fun cls d _ H => E cls d H
def spA (p : Par) (f : Fn) : Sp := fun vs H Q E => ∃ ds μ st, Sim p st μ H ∧ RDs p st H ds vs ∧ Post p (WofE E) (RD p) st [] H (f ds μ) Q
theorem startD_sl {p : Par} {st : Wd} {H : Hp} {ds : List D} {vs : List V} {N : List Str} (r : RDs p st H ds vs) : Sl p st H (startD N.length ds) (L2.start N vs) := by
  unfold startD L2.start
  refine ⟨by simp [r.length], fun i d h => ?_⟩
  have hl := r.length
  by_cases hi : i < ds.length
  · rw [List.getElem?_append_left (by simpa using hi), List.getElem?_map] at h
    cases hd : ds[i]? with
    | none => rw [hd] at h; cases h
    | some d' =>
      rw [hd] at h
      cases h
      obtain ⟨v, hv, rv⟩ := r.get hd
      exact ⟨v, by rw [List.getElem?_append_left (by simpa [← hl] using hi), List.getElem?_map, hv]; rfl, rv⟩
  · rw [List.getElem?_append_right (by simpa using Nat.le_of_not_lt hi)] at h
    have := (List.getElem?_eq_some_iff.mp h).2
    simp at this
theorem body_ok {p : Par} {N : List Str} {k : Nat} {m : SM} {E : XK} {Q : VK} {vs : List V} {H : Hp} (h : spA p (body N.length k m) vs H Q E) : vs.length = k ∧ tS p (WofE E) m { nx := fun _ H' => Q .non H', rt := Q } (L2.start N vs) H := by
  obtain ⟨ds, μ, st, S, r, P⟩ := h
  unfold body at P
  split at P
  · rename_i hk
    refine ⟨by rw [← r.length]; exact hk, startD N.length ds, μ, st, S, startD_sl r, ?_⟩
    cases hm : m (startD N.length ds) μ with
    | none => rw [hm] at P; exact P
    | some q =>
      rw [hm] at P
      cases q with
      | nx Γ' μ' =>
        intro st' σ' H' e' S' L'
        obtain ⟨st2, a1, a2, a3⟩ := leave_ok (d := .non) (v := .non) S e' S' (by simp [RD])
        exact P st2 H' _ a1 a2 a3
      | rt d μ' =>
        intro st' H' v e' S' r'
        obtain ⟨st2, a1, a2, a3⟩ := leave_ok S e' S' r'
        exact P st2 H' _ a1 a2 a3
      | exc c xs Γ' μ' =>
        intro st' σ' H' dd e' S' L' x'
        obtain ⟨st2, a1, a2, a3⟩ := leaveX_ok S e' S' x'
        exact P st2 H' _ a1 a2 a3
      | bk _ _ => exact P.elim
      | ct _ _ => exact P.elim
  · exact P.elim

section
variable {P : Program} {w : World} {p : Par} {mg : Str → Option Value} {base : Heap}
abbrev FnA (P : Program) (w : World) (p : Par) (mg : Str → Option Value) (base : Heap) (k : Nat) (f : Addr) (g : Fn) : Prop := FnR P w p.K mg base (L2.CX P w) k f (spA p g)
/-- THE RULE for a def -/
theorem fn_ok {x qual : Str} {st : Stmt} {f : Addr} {fd : FuncData} {N ps : List Str} {k : Nat} {m : SM} (F : Fun p.K x qual st f fd) (hb : Binds p.K fd ps []) (S : FnScope N ps (defScope st))
    (hbody : ∀ (cdv : Value) (A : Around) (outer : List Env) (s : Shared) (H : Hp) (E : XK), Room k (A.deeper (envOfC qual (defScope st) s.heap.objs.size f cdv)) →
      Takes (cxOf (L2.CX P w) P w p.K mg base N qual (defScope st) f cdv A outer s H E) (WofE E) → PassesOwn (model P w) (A.deeper (envOfC qual (defScope st) s.heap.objs.size f cdv)) (envOfC qual (defScope st) s.heap.objs.size f cdv) (cxOf (L2.CX P w) P w p.K mg base N qual (defScope st) f cdv A outer s H E).xe →
      ASs p (cxOf (L2.CX P w) P w p.K mg base N qual (defScope st) f cdv A outer s H E) (WofE E) (defBody st) m) : FnA P w p mg base (k + 1) f (body N.length ps.length m) := by
  have G : FnOk P w p.K mg base (L2.CX P w) (k + 1) f fd ps (spA p (body N.length ps.length m)) :=
    F.okX S (fun vs H Q E h => (body_ok h).1) fun cdv A outer s H vs Q E hr h => ⟨_, (hbody cdv A outer s H E hr (takes_of rfl rfl rfl rfl) (passes_of rfl)).2, (body_ok h).2⟩
  exact (G.raw hb .nil).imp fun vs H Q E h => by rw [List.append_nil]; exact h
/-- a better promise -/
def Fn.le (f g : Fn) : Prop := ∀ ds μ r, g ds μ = some r → f ds μ = some r
theorem FnA.le {k : Nat} {f : Addr} {g g' : Fn} (F : FnA P w p mg base k f g) (h : Fn.le g g') : FnA P w p mg base k f g' := F.imp fun vs H Q E ⟨ds, μ, st, S, r, q⟩ => ⟨ds, μ, st, S, r, by
  unfold Post at *
  cases hg : g' ds μ with
  | none => rw [hg] at q; exact q.elim
  | some z => rw [hg] at q; rw [h ds μ z hg]; exact q⟩
end

/-! ### calls -/
section
variable {p : Par} {X : Cx} {W : WX} {pos pp apos : Pos} {e o : Expr} {es : List Expr} {x m : Str} {ma : M (List D)} {mo : M D} {k : Nat} {f C : Addr} {g : Fn}
theorem run_a {pins : List (Addr × Obj)} {σ : L2.St} {H : Hp} {s : Shared} {Q : VK} {us : List Value} {vs : List V} {E : XK} {sp : Sp} (F : FnR X.prog X.w X.K X.mg X.base (L2.CX X.prog X.w) k f sp) (hr : Room k X.A) (hx : PassesAt (L2.CX X.prog X.w) X σ E)
    (I : Inv X pins σ H s) (r : Vals vs us) (h : sp vs H Q E) :
    codeAny (model X.prog X.w) X.A (.call (.ref f) ⟨us, []⟩) (fun r s' => match r with | .ok (.ret v) => EP X pins σ Q v s' | .ok _ => False | .error e => X.xe e s') s :=
  codeAny_mono (F X.A X.stack s H us vs Q E hr I.env0 r h) fun r s' hq => match r, hq with
    | .error e, hq => hx pins H s e s' I hq
    | .ok (.ret u), hq => I.after hq
    | .ok .next, hq => hq.elim
    | .ok .brk, hq => hq.elim
    | .ok .cont, hq => hq.elim
def eCall (g : Fn) (m : M (List D)) : M D := bnd m fun ds _ μ => g ds μ
/-- what a call asks -/
theorem call_post {σ : L2.St} {H : Hp} {Q : VK} {Γ : Env'} {μ : Sto} {st : Wd} {ds : List D} {vs : List V} (S : Sim p st μ H) (r : RDs p st H ds vs) (P : Post p W (RD p) st σ H (g ds μ) Q) : spA p g vs H Q (WE W σ) :=
  ⟨ds, μ, st, S, r, by
    unfold Post at *
    cases hg : g ds μ with
    | none => rw [hg] at P; exact P
    | some q =>
      rw [hg] at P
      cases q with
      | ok a μ' => exact P
      | exc c xs μ' => exact P⟩
theorem ae_call (tk : Takes X W) (F : FnA X.prog X.w p X.mg X.base k f g) (hr : Room k X.A) (hg : Gl X x) (hm : X.mg x = some (.ref f)) (hk : PySem.W.keepIn X.K (.ref f) = true) (ha : AA p X W (e :: es) ma)
    (hdb : (x == ("__debug__" : Str)) = false := by decide) (he : starEach (e :: es) X.env = (false, eval e X.env) :: starEach es X.env := by rfl) (hpl : (backTo pos (starEach es X.env)).any (·.1) = false := by rfl) :
    AE p X W (.Call (.Name x pp) (e :: es) [] pos) (eCall g ma) := by
  refine ⟨ha.1, ⟨fun pins s σ H Q I ⟨Γ, μ, st, S, L, P⟩ => ?_⟩⟩
  refine wpAny_Call_Name_kw (ld_glob I hg hm ?_ hdb)
  have F' : FnR X.prog X.w X.K X.mg X.base (L2.CX X.prog X.w) k f (spA p g) := by rw [ha.1]; exact F
  have h0 : tL p W ma σ H fun vs H1 => spA p g vs H1 Q (WE W σ) := tG_bndE (rel := RDs p) S L P fun ds vs μ1 st1 H1 e1 S1 L1 r1 P1 => call_post (Γ := Γ) S1 r1 P1
  exact PySem.W.callWith_K (h₀ := X.base) I.ok.mod.kin hk (thn (ha.2.run pos pins s σ H _ I h0) fun us s1 ⟨vs, H1, I1, rr, q⟩ => ⟨I1.kIn, wpAny_call (run_a F' hr (passAt tk σ) I1 rr q)⟩) he hpl
theorem ae_call0 (tk : Takes X W) (hK : X.K = p.K) (F : FnA X.prog X.w p X.mg X.base k f g) (hr : Room k X.A) (hg : Gl X x) (hm : X.mg x = some (.ref f)) (hk : PySem.W.keepIn X.K (.ref f) = true)
    (hdb : (x == ("__debug__" : Str)) = false := by decide) : AE p X W (.Call (.Name x pp) [] [] pos) (eCall g aNil) := by
  refine ⟨hK, ⟨fun pins s σ H Q I ⟨Γ, μ, st, S, L, P⟩ => ?_⟩⟩
  have F' : FnR X.prog X.w X.K X.mg X.base (L2.CX X.prog X.w) k f (spA p g) := by rw [hK]; exact F
  have h0 : spA p g [] H Q (WE W σ) := call_post (Γ := Γ) S RDs.nil P
  exact wpAny_Call_Name_kw (ld_glob I hg hm (PySem.W.callWith_K0 I.kIn hk (wpAny_call (run_a F' hr (passAt tk σ) I .nil h0))) hdb)
/-- o.m(..): the class of o tells the method -/
structure MthOk (p : Par) (c : Nat) (m : Str) (f : Addr) : Prop where
  cl : Cls p.K (p.ca c)
  mt : Meth p.K (p.ca c) m f
  no : m ∉ p.cn c
theorem zip_none {m : Str} : ∀ {ns : List Str} {vs : List V}, m ∉ ns → (ns.zip vs).lookup m = none
  | [], _, _ => rfl
  | n :: ns, [], _ => rfl
  | n :: ns, v :: vs, h => by
    simp only [List.mem_cons, not_or] at h
    simp only [List.zip_cons_cons, List.lookup]
    rw [show (m == n) = false by simpa using h.1]
    exact zip_none h.2
def isIns (c : Nat) (d : D) : M Unit := fun _ μ => match d with
  | .ref k => match μ[k]? with | some (.ins c' _) => if c' = c then some (.ok () μ) else none | _ => none
  | _ => none
theorem isIns_ok {c : Nat} {d : D} {v : V} {Γ : Env'} {μ : Sto} {st : Wd} {σ : L2.St} {H : Hp} {α β : Type} {rel : Wd → Hp → α → β → Prop} {kk : Unit → M α} {Q : β → Hp → Prop} (S : Sim p st μ H) (r : RD p st H d v) (P : Post p W rel st σ H (bnd (isIns c d) kk Γ μ) Q) :
    (∃ a dx vs, v = .ref a ∧ H a = some (.ins (p.ca c) dx ((p.cn c).zip vs))) ∧ Post p W rel st σ H (kk () Γ μ) Q := by
  unfold bnd isIns at P
  cases d with
  | ref k =>
    simp only at P
    cases hk : μ[k]? with
    | none => simp only [hk] at P; exact P.elim
    | some o =>
      cases o with
      | ins c' ds =>
        simp only [hk] at P
        by_cases hc : c' = c
        · subst hc
          simp only [if_pos rfl] at P
          simp only [RD] at r
          obtain ⟨a, e1, h1⟩ := r
          obtain ⟨ho, h2, r2⟩ := S.cel k a _ h1 hk
          obtain ⟨dx, vs, e2, _⟩ := r2
          subst e2
          exact ⟨⟨a, dx, vs, e1, h2⟩, P⟩
        · simp only [if_neg hc] at P; exact P.elim
      | _ => simp only [hk] at P; exact P.elim
  | _ => exact P.elim
def eMeth (c : Nat) (g : Fn) (o : M D) (a : M (List D)) : M D := bnd o fun x => bnd (isIns c x) fun _ => bnd a fun ds _ μ => g (x :: ds) μ
theorem ae_meth {c : Nat} {pl : Sem Bool} (tk : Takes X W) (T : MthOk p c m f) (F : FnA X.prog X.w p X.mg X.base k f g) (hr : Room k X.A) (ho : AE p X W o mo) (ha : AA p X W (e :: es) ma)
    (hst : starEach (e :: es) X.env = (false, eval e X.env) :: starEach es X.env := by rfl) (hpl : (backTo pos (starEach es X.env)).any (·.1) = false := by rfl)
    (ht : eval (.Call (.Attribute o m apos) (e :: es) [] pos) X.env = (do let ov ← eval o X.env; standAt apos.atName; let (f, first) ← holding [ov] (getMethod ov m pl); callWith pos f first (backTo pos (starEach (e :: es) X.env)) (backToKw pos (keywordEach [] X.env))) := by rfl) :
    AE p X W (.Call (.Attribute o m apos) (e :: es) [] pos) (eMeth c g mo ma) := by
  refine ⟨ha.1, ⟨fun pins s σ H Q I ⟨Γ, μ, st, S, L, P⟩ => ?_⟩⟩
  have F' : FnR X.prog X.w X.K X.mg X.base (L2.CX X.prog X.w) k f (spA p g) := by rw [ha.1]; exact F
  have cl : Cls X.K (p.ca c) := by rw [ha.1]; exact T.cl
  have mt : Meth X.K (p.ca c) m f := by rw [ha.1]; exact T.mt
  have h0 : tA p W mo σ H fun v H1 => ∃ a dx fs, v = .ref a ∧ H1 a = some (.ins (p.ca c) dx fs) ∧ fs.lookup m = none ∧ tL p W ma σ H1 fun vs H2 => spA p g (v :: vs) H2 Q (WE W σ) := by
    refine tG_bndE (rel := RD p) S L P fun d v μ1 st1 H1 e1 S1 L1 r1 P1 => ?_
    obtain ⟨⟨a, dx, vs, e2, h2⟩, P2⟩ := isIns_ok S1 r1 P1
    refine ⟨a, dx, _, e2, h2, zip_none T.no, tG_bndE (rel := RDs p) S1 L1 P2 fun ds ws μ2 st2 H2 e3 S2 L2 r2 P3 => ?_⟩
    exact call_post (Γ := Γ) S2 (RDs.cons (r1.mono e3) r2) P3
  refine PySem.W.methodCall_KW (pl := pl) (thn (ho.2.run pins s σ H _ I h0) fun u s1 ⟨v, H1, I1, rv, a, dx, fs, ev, ea, hl, q⟩ => ?_) ht
  subst ev
  obtain rfl : u = Value.ref a := rv
  refine getmeth_ok I1 ea cl mt hl ?_
  exact PySem.W.callWith_K (first := [.ref a]) (h₀ := X.base) I.ok.mod.kin mt.kp (thn (ha.2.run pos pins s1 σ H1 _ I1 q) fun us s2 ⟨vs, H2, I2, rr, q2⟩ => ⟨I2.kIn, wpAny_call (run_a (us := .ref a :: us) (vs := .ref a :: vs) F' hr (passAt tk σ) I2 (.cons rfl rr) q2)⟩) hst hpl
theorem ae_meth0 {c : Nat} {pl : Sem Bool} (tk : Takes X W) (T : MthOk p c m f) (F : FnA X.prog X.w p X.mg X.base k f g) (hr : Room k X.A) (ho : AE p X W o mo)
    (ht : eval (.Call (.Attribute o m apos) [] [] pos) X.env = (do let ov ← eval o X.env; standAt apos.atName; let (f, first) ← holding [ov] (getMethod ov m pl); callWith pos f first (backTo pos (starEach [] X.env)) (backToKw pos (keywordEach [] X.env))) := by rfl) :
    AE p X W (.Call (.Attribute o m apos) [] [] pos) (eMeth c g mo aNil) := by
  refine ⟨ho.1, ⟨fun pins s σ H Q I ⟨Γ, μ, st, S, L, P⟩ => ?_⟩⟩
  have F' : FnR X.prog X.w X.K X.mg X.base (L2.CX X.prog X.w) k f (spA p g) := by rw [ho.1]; exact F
  have cl : Cls X.K (p.ca c) := by rw [ho.1]; exact T.cl
  have mt : Meth X.K (p.ca c) m f := by rw [ho.1]; exact T.mt
  have h0 : tA p W mo σ H fun v H1 => ∃ a dx fs, v = .ref a ∧ H1 a = some (.ins (p.ca c) dx fs) ∧ fs.lookup m = none ∧ spA p g [v] H1 Q (WE W σ) := by
    refine tG_bndE (rel := RD p) S L P fun d v μ1 st1 H1 e1 S1 L1 r1 P1 => ?_
    obtain ⟨⟨a, dx, vs, e2, h2⟩, P2⟩ := isIns_ok S1 r1 P1
    exact ⟨a, dx, _, e2, h2, zip_none T.no, call_post (Γ := Γ) S1 (RDs.one r1) P2⟩
  refine PySem.W.methodCall_KW (pl := pl) (thn (ho.2.run pins s σ H _ I h0) fun u s1 ⟨v, H1, I1, rv, a, dx, fs, ev, ea, hl, q⟩ => ?_) ht
  subst ev
  obtain rfl : u = Value.ref a := rv
  refine getmeth_ok I1 ea cl mt hl ?_
  exact PySem.W.callWith_K0 (first := [.ref a]) I1.kIn mt.kp (wpAny_call (run_a (us := [.ref a]) (vs := [.ref a]) F' hr (passAt tk σ) I1 (.cons rfl .nil) q))
/-- C(..): a new cell, then __init__ -/
def eMake (c : Nat) (g : Fn) (a : M (List D)) : M D := bnd a fun ds _ μ => match g (.ref μ.length :: ds) (μ ++ [.ins c []]) with
  | some (.ok .non μ') => some (.ok (.ref μ.length) μ')
  | some (.exc c xs μ') => some (.exc c xs μ')
  | _ => none
theorem make_post {c : Nat} {σ : L2.St} {H : Hp} {Q : VK} {μ : Sto} {st : Wd} {ds : List D} {vs : List V} (S : Sim p st μ H) (r : RDs p st H ds vs)
    (P : Post p W (RD p) st σ H (match g (.ref μ.length :: ds) (μ ++ [.ins c []]) with | some (.ok .non μ') => some (.ok (.ref μ.length) μ') | some (.exc c xs μ') => some (.exc c xs μ') | _ => none) Q) :
    ∀ x dx, H x = none → H dx = none → dx ≠ x → spA p g (.ref x :: vs) (upd (upd H dx (.own x)) x (.ins (p.ca c) dx [])) (fun v H2 => v = .non ∧ Q (.ref x) H2) (WE W σ) := by
  intro x dx hx hdx ne
  have S1 : Sim p st μ (upd H dx (.own x)) := S.new hdx
  have E1 : Ext p st H st (upd H dx (.own x)) := Ext.new S hdx
  have hx1 : upd H dx (.own x) x = none := by rw [upd_ne (Ne.symm ne)]; exact hx
  have E2 : Ext p st (upd H dx (.own x)) (st.add x) (upd (upd H dx (.own x)) x (.ins (p.ca c) dx [])) := Ext.cell S1 hx1
  have S2 : Sim p (st.add x) (μ ++ [.ins c []]) (upd (upd H dx (.own x)) x (.ins (p.ca c) dx [])) := S1.cell hx1 ⟨dx, [], by simp, RDs.nil, by simp⟩
  have E := E1.trans E2
  have rx : RD p (st.add x) (upd (upd H dx (.own x)) x (.ins (p.ca c) dx [])) (.ref μ.length) (.ref x) := by
    simp only [RD]; exact ⟨x, rfl, by show (st.φ ++ [x])[μ.length]? = some x; rw [← S.len]; simp⟩
  refine ⟨.ref μ.length :: ds, μ ++ [.ins c []], st.add x, S2, RDs.cons rx (r.mono E), ?_⟩
  cases hg : g (.ref μ.length :: ds) (μ ++ [.ins c []]) with
  | none => rw [hg] at P; exact P.elim
  | some q =>
    rw [hg] at P
    cases q with
    | exc c xs μ' => exact fun st' H' dd e' S' x' => P st' H' dd (E.trans e') S' x'
    | ok a μ' =>
      cases a with
      | non =>
        intro st' H' v e' S' rv
        simp only [RD] at rv
        exact ⟨rv, P st' H' _ (E.trans e') S' (rx.mono e')⟩
      | _ => exact P.elim
theorem run_mk {c : Nat} {pins : List (Addr × Obj)} {σ : L2.St} {H : Hp} {s : Shared} {Q : VK} {us : List Value} {vs : List V} {E : XK} {sp : Sp} (T : Mk X.K C f) (F : FnR X.prog X.w X.K X.mg X.base (L2.CX X.prog X.w) k f sp) (hr : Room (k + 1) X.A)
    (hx : PassesAt (L2.CX X.prog X.w) X σ E) (I : Inv X pins σ H s) (r : Vals vs us)
    (h : ∀ x dx, H x = none → H dx = none → dx ≠ x → sp (.ref x :: vs) (upd (upd H dx (.own x)) x (.ins C dx [])) (fun v H2 => v = .non ∧ Q (.ref x) H2) E) :
    wpAny (model X.prog X.w) X.A (call (.ref C) us) (EP X pins σ Q) X.xe s := by
  have n := s.heap.objs.size
  have J := Inv.made (C := C) I
  have hq := h (s.heap.objs.size + 1) s.heap.objs.size (I.hok.fresh (Nat.le_succ _)) (I.hok.fresh (Nat.le_refl _)) (Nat.ne_of_lt (Nat.lt_succ_self _))
  refine wpAny_call (make_map (f := f) I.kIn T.makes T.init (beq_iff_eq.mp T.fn) (codeAny_mono (F _ X.stack _ _ _ _ _ E (hr.make C us []) (J.env0.make C us []) (Paired.cons (F := RelV) (a := V.ref (s.heap.objs.size + 1)) (b := Value.ref (s.heap.objs.size + 1)) rfl r) hq) fun q s' hq' => ?_))
  match q, hq' with
  | .error e, hq' => exact hx pins _ _ e s' J hq'
  | .ok (.ret u), hq' =>
    obtain ⟨v, H', J2, rv, ev, q3⟩ := J.after hq'
    subst ev
    exact ⟨rv, V.ref _, H', J2, rfl, q3⟩
  | .ok .next, hq' => exact hq'.elim
  | .ok .brk, hq' => exact hq'.elim
  | .ok .cont, hq' => exact hq'.elim
theorem ae_make {c : Nat} (tk : Takes X W) (T : Mk X.K (p.ca c) f) (F : FnA X.prog X.w p X.mg X.base k f g) (hr : Room (k + 1) X.A) (hg : Gl X x) (hm : X.mg x = some (.ref (p.ca c))) (ha : AA p X W (e :: es) ma)
    (hdb : (x == ("__debug__" : Str)) = false := by decide) (he : starEach (e :: es) X.env = (false, eval e X.env) :: starEach es X.env := by rfl) (hpl : (backTo pos (starEach es X.env)).any (·.1) = false := by rfl) :
    AE p X W (.Call (.Name x pp) (e :: es) [] pos) (eMake c g ma) := by
  refine ⟨ha.1, ⟨fun pins s σ H Q I ⟨Γ, μ, st, S, L, P⟩ => ?_⟩⟩
  refine wpAny_Call_Name_kw (ld_glob I hg hm ?_ hdb)
  have F' : FnR X.prog X.w X.K X.mg X.base (L2.CX X.prog X.w) k f (spA p g) := by rw [ha.1]; exact F
  have h0 : tL p W ma σ H fun vs H1 => ∀ x dx, H1 x = none → H1 dx = none → dx ≠ x → spA p g (.ref x :: vs) (upd (upd H1 dx (.own x)) x (.ins (p.ca c) dx [])) (fun v H2 => v = .non ∧ Q (.ref x) H2) (WE W σ) :=
    tG_bndE (rel := RDs p) S L P fun ds vs μ1 st1 H1 e1 S1 L1 r1 P1 => make_post S1 r1 P1
  exact PySem.W.callWith_K (h₀ := X.base) I.ok.mod.kin T.kp (thn (ha.2.run pos pins s σ H _ I h0) fun us s1 ⟨vs, H1, I1, rr, q⟩ => ⟨I1.kIn, run_mk (c := c) T F' hr (passAt tk σ) I1 rr q⟩) he hpl
theorem ae_make0 {c : Nat} (tk : Takes X W) (hK : X.K = p.K) (T : Mk X.K (p.ca c) f) (F : FnA X.prog X.w p X.mg X.base k f g) (hr : Room (k + 1) X.A) (hg : Gl X x) (hm : X.mg x = some (.ref (p.ca c)))
    (hdb : (x == ("__debug__" : Str)) = false := by decide) : AE p X W (.Call (.Name x pp) [] [] pos) (eMake c g aNil) := by
  refine ⟨hK, ⟨fun pins s σ H Q I ⟨Γ, μ, st, S, L, P⟩ => ?_⟩⟩
  have F' : FnR X.prog X.w X.K X.mg X.base (L2.CX X.prog X.w) k f (spA p g) := by rw [hK]; exact F
  have h0 := make_post (W := W) (σ := σ) (Q := Q) S (RDs.nil (p := p)) P
  exact wpAny_Call_Name_kw (ld_glob I hg hm (PySem.W.callWith_K0 I.kIn T.kp (run_mk (c := c) (us := []) T F' hr (passAt tk σ) I .nil h0)) hdb)
end
end Ab

set_option maxRecDepth 100000
set_option maxHeartbeats 1000000
namespace Ab
open PySem L2 PyProof.Rows
section
variable {p : Par} {X : Cx} {W : WX} {pos pp apos : Pos} {e o : Expr} {es : List Expr} {x m : Str} {me mo : M D} {ma : M (List D)}

/-! ### text * int -/
def gMulS : D → D → Sto → Option NV
  | .str l, .int k, _ => if k ≤ 1000000 ∧ -1000000 ≤ k ∧ l.length * k.toNat ≤ big then some (.v (.str (List.replicate k.toNat l).flatten)) else none
  | _, _, _ => none
def rMulS : R2 := fun x y H Q => ∃ z n, x = .str z ∧ y = .int n ∧ n ≤ 1000000 ∧ -1000000 ≤ n ∧ z.length * n.toNat ≤ 1000000 ∧ Q (.str (Txt.mul z n)) H
theorem op_mulS : OpR X (binaryOp .Mult) rMulS := by
  intro pins s σ H x y v u Q I rx ry h
  obtain ⟨z, n, e1, e2, h1, h2, h3, q⟩ := h
  subst e1; subst e2
  obtain ⟨t, rfl⟩ := rx
  obtain ⟨t', rfl⟩ := ry
  refine SB.mul ⟨?_, fun _ _ => ?_, fun _ _ => ?_⟩ fun t' k => ⟨.str _, H, I.tok k, ⟨_, rfl⟩, q⟩
  · simp only [Bool.or_eq_false_iff, decide_eq_false_iff_not]; omega
  · intro hgt
    rename_i hn hc
    have h0 : (0 : Int) < n := by omega
    have h4 : (z.length : Int) * n ≤ 1000000 := by
      have : ((z.length * n.toNat : Nat) : Int) ≤ 1000000 := by omega
      rw [Int.natCast_mul, Int.toNat_of_nonneg (by omega)] at this
      exact this
    have h5 : ((2 ^ 63 - 1) / n + 1) * n > 2 ^ 63 - 1 := by
      have := Int.lt_ediv_add_one_mul_self (2 ^ 63 - 1) h0
      exact this
    have h6 : ((2 ^ 63 - 1) / n + 1) * n ≤ (z.length : Int) * n := Int.mul_le_mul_of_nonneg_right (by omega) (by omega)
    omega
  · unfold PySem.Builtin.Str.tooLong
    rw [decide_eq_false_iff_not]
    have := sizeLine_eq
    omega
theorem foldl_app (l : List Nat) : ∀ (n : Nat) (acc : Array Nat), ((List.replicate n l.toArray).foldl (· ++ ·) acc).toList = acc.toList ++ (List.replicate n l).flatten
  | 0, acc => by simp
  | n + 1, acc => by
    rw [List.replicate_succ, List.foldl_cons, foldl_app l n]
    simp [List.replicate_succ, List.append_assoc]
theorem mul_mk (l : List Nat) (n : Int) : Txt.mul (mkS l) n = mkS (List.replicate n.toNat l).flatten := by
  unfold Txt.mul
  by_cases h1 : n < 1
  · rw [if_pos h1, show n.toNat = 0 by omega]
    rfl
  · rw [if_neg h1]
    by_cases h2 : (n == 1 || (mkS l).length == 0) = true
    · rw [if_pos h2]
      simp only [Bool.or_eq_true, beq_iff_eq] at h2
      rcases h2 with h2 | h2
      · subst h2; simp
      · rw [mkS_len] at h2
        have : l = [] := List.eq_nil_of_length_eq_zero h2
        subst this
        simp
    · rw [if_neg h2]
      have := foldl_app l n.toNat #[]
      refine TL.ext_tl ?_
      show ((List.replicate n.toNat l.toArray).foldl (· ++ ·) #[]).toList = _
      rw [this]
      rfl
theorem rep_len (l : List Nat) (n : Nat) : (List.replicate n l).flatten.length = l.length * n := by
  simp [Nat.mul_comm]
theorem opN_mulS : OpN p rMulS gMulS := by
  intro c st μ μ' H x y z v w Q S rx ry hf k
  cases x with
  | str l =>
    cases y with
    | int n =>
      simp only [gMulS] at hf
      split at hf
      · rename_i hp
        simp only [Option.map_some, fin_v, Option.some.injEq, Prod.mk.injEq] at hf
        obtain ⟨e1, e2⟩ := hf
        subst e1; subst e2
        simp only [RD] at rx ry
        refine ⟨mkS l, n, rx.1, ry, hp.1, hp.2.1, by rw [mkS_len]; exact hp.2.2, ?_⟩
        rw [mul_mk]
        exact k st H _ Ext.refl S (by simp only [RD]; exact ⟨trivial, by rw [rep_len]; exact sz6 hp.2.2⟩)
      · cases hf
    | _ => simp [gMulS] at hf
  | _ => simp [gMulS] at hf

/-! ### the operators, put together -/
def gAdd : D → D → Sto → Option NV := fun x y μ => match (match (match gI (fun _ _ => true) (fun i j => .int (i + j)) x y μ with | some z => some z | none => gAddS x y μ) with | some z => some z | none => gAddL x y μ) with | some z => some z | none => gAddT x y μ
def rAddA (K : PySem.W.Frag) : R2 := fun x y H Q => ((rI0 (fun i j => .int (i + j)) x y H Q ∨ (∃ i j, x = .str i ∧ y = .str j ∧ i.length + j.length ≤ sizeLine ∧ Q (.str (i ++ j)) H)) ∨ rCat x y H Q) ∨ rCatA K x y H Q
theorem op_addA : OpR X (binaryOp .Add) (rAddA X.K) := OpR.or (OpR.or (OpR.or op_add op_add_str) op_cat) op_catA
theorem opN_addA : OpN p (rAddA p.K) gAdd := OpN.or (OpN.or (OpN.or (opN_I0 fun i j st H => by simp [RD]) opN_addS) opN_addL) opN_addT
theorem OpN.s {r : R2} {g : D → D → Sto → Option NV} (h : OpN p r g) (c : Bool) : OpS p r fun x y μ => (g x y μ).map (fin c μ) := h c
def eN (c : Bool) (g : D → D → Sto → Option NV) (a b : M D) : M D := eOp (fun x y μ => (g x y μ).map (fin c μ)) a b
variable {a b : Expr} {va vb : M D}
theorem ae_add (c : Bool) (ha : AE p X W a va) (hb : AE p X W b vb) : AE p X W (.BinOp a .Add b pos) (eN c gAdd va vb) := ae_op (by rw [← ha.1]; exact op_addA) (opN_addA c) ha hb
def gMul : D → D → Sto → Option NV := fun x y μ => match (match gI (fun i _ => decide (-(2 ^ 64) < i ∧ i < 2 ^ 64)) (fun i j => .int (i * j)) x y μ with | some z => some z | none => gMulS x y μ) with | some z => some z | none => gMulL x y μ
def rMulA : R2 := fun x y H Q => (rI CMul (fun i j => .int (i * j)) x y H Q ∨ rMulS x y H Q) ∨ rRep x y H Q
theorem op_mulA : OpR X (binaryOp .Mult) rMulA := OpR.or (OpR.or op_mul op_mulS) op_rep
theorem opN_mulA : OpN p rMulA gMul := OpN.or (OpN.or (opN_I (fun i j h => .inl (by simpa using h)) fun i j st H => by simp [RD]) opN_mulS) opN_mulL
theorem ae_mul (c : Bool) (ha : AE p X W a va) (hb : AE p X W b vb) : AE p X W (.BinOp a .Mult b pos) (eN c gMul va vb) := ae_op op_mulA (opN_mulA c) ha hb
def gSub := gI (fun _ _ => true) (fun i j => .int (i - j))
theorem ae_sub (ha : AE p X W a va) (hb : AE p X W b vb) : AE p X W (.BinOp a .Sub b pos) (eN false gSub va vb) := ae_op op_sub (opN_I0 (fun i j st H => by simp [RD]) false) ha hb
def gMod := gI (fun _ j => decide (0 < j)) (fun i j => .int (i % j))
theorem ae_mod (ha : AE p X W a va) (hb : AE p X W b vb) : AE p X W (.BinOp a .Mod b pos) (eN false gMod va vb) := ae_op op_mod (opN_I (fun i j h => by simpa using h) (fun i j st H => by simp [RD]) false) ha hb
def gPow := gI (fun i j => decide (0 ≤ j ∧ j ≤ 1000000 ∧ i.natAbs < 2 ^ 64)) (fun i j => .int (i ^ j.toNat))
theorem ae_pow (ha : AE p X W a va) (hb : AE p X W b vb) : AE p X W (.BinOp a .Pow b pos) (eN false gPow va vb) := ae_op op_pow (opN_I (fun i j h => by have h' := of_decide_eq_true h; exact h') (fun i j st H => by simp [RD]) false) ha hb
def gShl := gI (fun i j => decide (0 ≤ j ∧ j ≤ 1000000 ∧ i.natAbs < 2 ^ 64)) (fun i j => .int (i * 2 ^ j.toNat))
theorem ae_shl (ha : AE p X W a va) (hb : AE p X W b vb) : AE p X W (.BinOp a .LShift b pos) (eN false gShl va vb) := ae_op op_shl (opN_I (fun i j h => by have h' := of_decide_eq_true h; exact h') (fun i j st H => by simp [RD]) false) ha hb
def gShr := gI (fun _ j => decide (0 ≤ j)) (fun i j => .int (i / 2 ^ j.toNat))
theorem ae_shr (ha : AE p X W a va) (hb : AE p X W b vb) : AE p X W (.BinOp a .RShift b pos) (eN false gShr va vb) := ae_op op_shr (opN_I (fun i j h => by simpa using h) (fun i j st H => by simp [RD]) false) ha hb
def gBand := gI (fun _ _ => true) (fun i j => .int (Builtin.bitAnd i j))
theorem ae_band (ha : AE p X W a va) (hb : AE p X W b vb) : AE p X W (.BinOp a .BitAnd b pos) (eN false gBand va vb) := ae_op op_and (opN_I0 (fun i j st H => by simp [RD]) false) ha hb
def gBor := gI (fun _ _ => true) (fun i j => .int (Builtin.bitOr i j))
theorem ae_bor (ha : AE p X W a va) (hb : AE p X W b vb) : AE p X W (.BinOp a .BitOr b pos) (eN false gBor va vb) := ae_op op_or (opN_I0 (fun i j st H => by simp [RD]) false) ha hb
/-- // of a great number by a small positive one -/
def gFdiv := gI (fun i j => decide (0 < j ∧ j < 1073741824)) (fun i j => .int (i / j))
/-- comparisons -/
def gLt := gI (fun _ _ => true) (fun i j => .bl (decide (i < j)))
def gLe := gI (fun _ _ => true) (fun i j => .bl (decide (i ≤ j)))
def gGt := gI (fun _ _ => true) (fun i j => .bl (decide (j < i)))
def gGe := gI (fun _ _ => true) (fun i j => .bl (decide (j ≤ i)))
theorem ae_lt (ha : AE p X W a va) (hb : AE p X W b vb) : AE p X W (.Compare a [.Lt] [b] pos) (eN false gLt va vb) := ae_cmp op_lt (opN_I0 (fun i j st H => by simp [RD]) false) ha hb (nobehind _ (by decide) (by decide))
theorem ae_le (ha : AE p X W a va) (hb : AE p X W b vb) : AE p X W (.Compare a [.LtE] [b] pos) (eN false gLe va vb) := ae_cmp op_le (opN_I0 (fun i j st H => by simp [RD]) false) ha hb (nobehind _ (by decide) (by decide))
theorem ae_gt (ha : AE p X W a va) (hb : AE p X W b vb) : AE p X W (.Compare a [.Gt] [b] pos) (eN false gGt va vb) := ae_cmp op_gt (opN_I0 (fun i j st H => by simp [RD]) false) ha hb (nobehind _ (by decide) (by decide))
theorem ae_ge (ha : AE p X W a va) (hb : AE p X W b vb) : AE p X W (.Compare a [.GtE] [b] pos) (eN false gGe va vb) := ae_cmp op_ge (opN_I0 (fun i j st H => by simp [RD]) false) ha hb (nobehind _ (by decide) (by decide))
theorem ae_eq {k : Nat} (hr : Room k X.A) (ha : AE p X W a va) (hb : AE p X W b vb) : AE p X W (.Compare a [.Eq] [b] pos) (eN false (gEq false) va vb) :=
  ae_cmp (by rw [← ha.1]; exact OpR.or op_eq (op_eqD hr.units)) (opN_eq false) ha hb (nobehind _ (by decide) (by decide))
theorem ae_ne {k : Nat} (hr : Room k X.A) (ha : AE p X W a va) (hb : AE p X W b vb) : AE p X W (.Compare a [.NotEq] [b] pos) (eN false (gEq true) va vb) :=
  ae_cmp (by rw [← ha.1]; exact OpR.or op_ne (op_neD hr.units)) (opN_ne false) ha hb (nobehind _ (by decide) (by decide))
def gIn (neg : Bool) : D → D → Sto → Option NV := fun x y μ => match gInQ neg x y μ with | some z => some z | none => gInS neg x y μ
theorem ae_in (ha : AE p X W a va) (hb : AE p X W b vb) (hm : behindInMarks .In b = false := by rfl) : AE p X W (.Compare a [.In] [b] pos) (eN false (gIn false) va vb) :=
  ae_cmp (by rw [← ha.1]; exact OpR.or op_in_seq op_in_sign) (OpN.or opN_inQ opN_inS false) ha hb hm
theorem ae_nin (ha : AE p X W a va) (hb : AE p X W b vb) (hm : behindInMarks .NotIn b = false := by rfl) : AE p X W (.Compare a [.NotIn] [b] pos) (eN false (gIn true) va vb) :=
  ae_cmp (by rw [← ha.1]; exact OpR.or op_notIn_seq op_notIn_sign) (OpN.or opN_inQ opN_notinS false) ha hb hm
theorem ae_isN (ha : AE p X W a va) (hb : AE p X W b vb) : AE p X W (.Compare a [.Is] [b] pos) (eN false (gIsN false) va vb) := ae_cmp op_isN (opN_isN false) ha hb (nobehind _ (by decide) (by decide))
theorem ae_notN (ha : AE p X W a va) (hb : AE p X W b vb) : AE p X W (.Compare a [.IsNot] [b] pos) (eN false (gIsN true) va vb) := ae_cmp op_notN (opN_notN false) ha hb (nobehind _ (by decide) (by decide))
theorem ae_le2 {c : Expr} {vc : M D} (ha : AE p X W a va) (hb : AE p X W b vb) (hc : AE p X W c vc) (hm : lastMarks [.LtE, .LtE] [b, c] = false := by rfl) : AE p X W (.Compare a [.LtE, .LtE] [b, c] pos) (eChain (fun x y μ => (gLe x y μ).map (fin false μ)) (fun x y μ => (gLe x y μ).map (fin false μ)) va vb vc) :=
  ae_chain op_le op_le (opN_I0 (fun i j st H => by simp [RD]) false) (opN_I0 (fun i j st H => by simp [RD]) false) ha hb hc hm
/-- -a -/
def eNeg (a : M D) : M D := bnd a fun d => match d with | .int i => ret (.int (-i)) | _ => fun _ _ => none
theorem ae_neg (ha : AE p X W a va) : AE p X W (.UnaryOp .USub a pos) (eNeg va) := by
  refine ⟨ha.1, PE.imp (pe_un un_neg ha.2) fun σ H Q ⟨Γ, μ, st, S, L, P⟩ => ?_⟩
  refine tG_bndE (rel := RD p) S L P fun d v μ1 st1 H1 e1 S1 L1 r1 P1 => ?_
  cases d with
  | int i => simp only [RD] at r1; exact ⟨i, r1, Post.ret P1 S1 (by simp [RD])⟩
  | _ => exact P1.elim
/-- f"{e}", e a text -/
def eFmt (m : M D) : M D := bnd m fun d => match d with | .str l => ret (.str l) | _ => fun _ _ => none
theorem ae_fs1 {p1 : Pos} (h : AE p X W e me) : AE p X W (.JoinedStr [.FormattedValue e (-1) none p1] pos) (eFmt me) := by
  refine ⟨h.1, PE.imp (pe_joined1 (pe_fmt h.2)) fun σ H Q ⟨Γ, μ, st, S, L, P⟩ => ?_⟩
  refine tG_bndE (rel := RD p) S L P fun d v μ1 st1 H1 e1 S1 L1 r1 P1 => ?_
  cases d with
  | str l =>
    have r1' := r1
    simp only [RD] at r1
    refine .inl ⟨mkS l, r1.1, by rw [mkS_len]; exact r1.2, ?_⟩
    rw [← r1.1]
    exact Post.ret P1 S1 r1'
  | _ => exact P1.elim

/-! ### xs[i] = e, xs[i] op= e -/
def setIx (x y z : D) (μ : Sto) : Option Sto := match x, y with
  | .ref k, .int i => match μ[k]? with
    | some (.lst ds) => (ixN ds.length i).map fun j => μ.set k (.lst (ds.set j z))
    | _ => none
  | _, _ => none
theorem setIx_ok {x y z : D} {v w u : V} {μ μ' : Sto} {st : Wd} {H : Hp} (S : Sim p st μ H) (rx : RD p st H x v) (ry : RD p st H y w) (rz : RD p st H z u) (h : setIx x y z μ = some μ') :
    ∃ a vs i j, v = .ref a ∧ w = .int i ∧ H a = some (.lst vs) ∧ ixN vs.length i = some j ∧ Ext p st H st (upd H a (.lst (vs.set j u))) ∧ Sim p st μ' (upd H a (.lst (vs.set j u))) := by
  unfold setIx at h
  split at h
  · split at h
    · rename_i k i _ ds hk
      simp only [Option.map_eq_some_iff] at h
      obtain ⟨j, hj, e1⟩ := h
      subst e1
      obtain ⟨a, vs, e2, h1, h2, h3⟩ := cell_lst S rx hk
      simp only [RD] at ry
      obtain ⟨E, S2⟩ := write_lst S h1 hk h2 (h3.set j rz)
      exact ⟨a, vs, i, j, e2, ry, h2, by rw [← h3.length]; exact hj, E, S2⟩
    · cases h
  · cases h
/-- a[i] as a target -/
def gSubT (o i : M D) : GM := fun z => bS o fun x => bS i fun y Γ μ => (setIx x y z μ).map fun μ' => .nx Γ μ'
theorem ag_sub {i : Expr} {mi : M D} (ho : AE p X W0 o mo) (hi : AE p X W0 i mi)
    (ha : ∀ v, assign (.Subscript o i pos) X.env v = (do let ov ← holding [v] (eval o X.env); let iv ← holding [v, ov] (eval i X.env); standAt pos; holding [v, ov, iv] (setItem ov iv v); release [v, ov, iv] []) := by intro _; rfl) :
    AG p X W0 (.Subscript o i pos) (gSubT mo mi) := by
  refine ⟨ho.1, PG.imp (pg_sub ho.2 hi.2 set_list ha) fun v σ H Q ⟨Γ, μ, st, d, S, L, r, P⟩ => ?_⟩
  refine tG_bS (W := W0) (E := { nx := Q, rt := fun _ _ => False }) (rel := RD p) S L P fun x vx μ1 st1 H1 e1 S1 L1 r1 P1 => ?_
  refine tG_bS (W := W0) (rel := RD p) S1 L1 P1 fun y vy μ2 st2 H2 e2 S2 L2 r2 P2 => ?_
  cases hs : setIx x y d μ2 with
  | none => rw [hs] at P2; exact P2.elim
  | some μ3 =>
    rw [hs] at P2
    obtain ⟨a, vs, i, j, e3, e4, h1, h2, E, S3⟩ := setIx_ok S2 (r1.mono e2) r2 (r.mono (e1.trans e2)) hs
    exact ⟨a, vs, i, j, e3, e4, h1, h2, P2 st2 σ _ E S3 (L2.mono E)⟩
/-- a[i] = e -/
def sSub (m o i : M D) : SM := bS m fun z => bS o fun x => bS i fun y Γ μ => (setIx x y z μ).map fun μ' => .nx Γ μ'
theorem as_sub {i : Expr} {mi : M D} {pt : Pos} (he : AE p X W e me) (ho : AE p X W o mo) (hi : AE p X W i mi) (hs : swapsWithSole [.Subscript o i pt] e pos.line X.env = pure false := by rfl) (hw : swappedStores [.Subscript o i pt] e X.env = pure none := by rfl)
    (ha : ∀ v, assign (.Subscript o i pt) X.env v = (do let ov ← holding [v] (eval o X.env); let iv ← holding [v, ov] (eval i X.env); standAt pt; holding [v, ov, iv] (setItem ov iv v); release [v, ov, iv] []) := by intro _; rfl) :
    AS p X W (.Assign [.Subscript o i pt] e pos) (sSub me mo mi) := by
  refine ⟨he.1, PS.imp (ps_asg he.2 (pg_sub ho.2 hi.2 set_list ha) hs hw) fun E σ H ⟨Γ, μ, st, S, L, P⟩ => ?_⟩
  refine tG_bS (rel := RD p) S L P fun d v μ0 st0 H0 e0 S0 L0 r P0 => ?_
  refine tG_bS (rel := RD p) S0 L0 P0 fun x vx μ1 st1 H1 e1 S1 L1 r1 P1 => ?_
  refine tG_bS (rel := RD p) S1 L1 P1 fun y vy μ2 st2 H2 e2 S2 L2 r2 P2 => ?_
  cases hs : setIx x y d μ2 with
  | none => rw [hs] at P2; exact P2.elim
  | some μ3 =>
    rw [hs] at P2
    obtain ⟨a, vs, i, j, e3, e4, h1, h2, E', S3⟩ := setIx_ok S2 (r1.mono e2) r2 (r.mono (e1.trans e2)) hs
    exact ⟨a, vs, i, j, e3, e4, h1, h2, P2 st2 σ _ E' S3 (L2.mono E')⟩
/-- a[i] op= e, i ≥ 0 -/
def rGetN (K : PySem.W.Frag) : R2 := fun x y H Q => ∃ l xs i v, x = .ref l ∧ y = .int i ∧ SqL K H l xs ∧ 0 ≤ i ∧ xs[i.toNat]? = some v ∧ Q v H
theorem get_list : PGet X (rGetN X.K) := by
  intro pins s σ H o i ov iv Q I ro ri h
  obtain ⟨l, xs, j, v, rfl, rfl, hq, h0, hv, q⟩ := h
  cases ro
  obtain ⟨t, rfl⟩ := ri
  obtain ⟨its, rv, pl, hz⟩ := I.list hq
  obtain ⟨u, hu, ru⟩ := rv.get hv
  have hl := (List.getElem?_eq_some_iff.mp hv).1
  have hn := line63
  exact wpAny_getItem_list pl.isList h0 (by omega) (by simpa using hu) ⟨v, H, I, ru, q⟩
def getN (x y : D) (μ : Sto) : Option D := match x, y with
  | .ref k, .int i => match μ[k]? with
    | some (.lst ds) => if 0 ≤ i then ds[i.toNat]? else none
    | _ => none
  | _, _ => none
def sAugS (f : D → D → Sto → Option (D × Sto)) (o i e : M D) : SM := bS o fun x => bS i fun y Γ μ => match getN x y μ with
  | none => none
  | some g => bS e (fun w Γ μ => match f g w μ with
    | none => none
    | some (z, μ') => (setIx x y z μ').map fun μ'' => SO.nx Γ μ'') Γ μ
theorem as_augS {i : Expr} {mi : M D} {op : Operator} {r : R2} {f : D → D → Sto → Option (D × Sto)} {tpos : Pos} (ho : AE p X W o mo) (hi : AE p X W i mi) (he : AE p X W e me) (hp : OpR X (inplaceOp op) r) (hr : OpS p r f)
    (ha : ∀ ov iv new, augStore i ov iv new = (do holding [new, ov, iv] (setItem ov iv new); release [new, ov, iv] []; pure .next) := by intros; rfl) :
    AS p X W (.AugAssign (.Subscript o i tpos) op e pos) (sAugS f mo mi me) := by
  refine ⟨he.1, PS.imp (ps_augS ho.2 hi.2 get_list he.2 hp set_list ha) fun E σ H ⟨Γ, μ, st, S, L, P⟩ => ?_⟩
  refine tG_bS (rel := RD p) S L P fun x vx μ1 st1 H1 e1 S1 L1 r1 P1 => ?_
  refine tG_bS (rel := RD p) S1 L1 P1 fun y vy μ2 st2 H2 e2 S2 L2 r2 P2 => ?_
  cases hg : getN x y μ2 with
  | none => simp only [hg] at P2; exact P2.elim
  | some g =>
    simp only [hg] at P2
    unfold getN at hg
    split at hg
    · split at hg
      · rename_i k j _ ds hk
        split at hg
        · rename_i h0
          obtain ⟨a, vs, e3, h1, h2, h3⟩ := cell_lst S2 (r1.mono e2) hk
          have r2' := r2
          simp only [RD] at r2
          obtain ⟨u, hu, ru⟩ := h3.get hg
          rw [ho.1]
          refine ⟨a, vs, j, u, e3, r2, SqL.of h2, h0, hu, ?_⟩
          refine tG_bS (rel := RD p) S2 L2 P2 fun w vw μ3 st3 H3 e4 S3 L3 r3 P3 => ?_
          cases hf : f g w μ3 with
          | none => simp only [hf] at P3; exact P3.elim
          | some q =>
            obtain ⟨z, μ4⟩ := q
            simp only [hf] at P3
            refine hr st3 μ3 μ4 H3 g w z u vw _ S3 (ru.mono e4) r3 hf fun st4 H4 v4 e5 S4 r4 => ?_
            have P4 := P3.ext e5
            cases hs : setIx (.ref k) (.int j) z μ4 with
            | none => rw [hs] at P4; exact P4.elim
            | some μ5 =>
              rw [hs] at P4
              obtain ⟨a', vs', i', j', e6, e7, h6, h7, E', S5⟩ := setIx_ok S4 (r1.mono ((e2.trans e4).trans e5)) (r2'.mono (e4.trans e5)) r4 hs
              exact ⟨a', vs', i', j', e6, e7, h6, h7, P4 st4 σ _ E' S5 ((L3.mono e5).mono E')⟩
        · cases hg
      · cases hg
    · cases hg

/-! ### o.f += e (ints) -/
def clsOf (x : D) (μ : Sto) : Option Nat := match x with
  | .ref k => match μ[k]? with | some (.ins c _) => some c | _ => none
  | _ => none
def sFldA (tb : List (Nat × Nat)) (f : D → D → Sto → Option (D × Sto)) (o e : M D) : SM := bS o fun x Γ μ => match getF tb x μ with
  | none => none
  | some g => bS e (fun w Γ μ2 => match f g w μ2 with
    | none => none
    | some (z, μ') => if clsOf x μ' = clsOf x μ then (setF tb x z μ').map fun μ'' => SO.nx Γ μ'' else none) Γ μ
theorem as_fldA {f : Str} {tb : List (Nat × Nat)} {op : Operator} {r : R2} {g : D → D → Sto → Option (D × Sto)} {tpos : Pos} (T : ∀ c i, tb.lookup c = some i → FldOk p c f i) (ho : AE p X W o mo) (he : AE p X W e me) (hp : InOp X op r) (hr : OpS p r g) :
    AS p X W (.AugAssign (.Attribute o f tpos) op e pos) (sFldA tb g mo me) := by
  refine ⟨he.1, PS.imp (ps_fldaug ho.2 he.2 hp) fun E σ H ⟨Γ, μ, st, S, L, P⟩ => ?_⟩
  refine tG_bS (rel := RD p) S L P fun x vx μ1 st1 H1 e1 S1 L1 r1 P1 => ?_
  cases hg : getF tb x μ1 with
  | none => simp only [hg] at P1; exact P1.elim
  | some d =>
    simp only [hg] at P1
    obtain ⟨a, kk, c, i, ds, dx, vs, u, ek, e2, hk, hm, hi, hd, h2, _, _, _, ru, hl⟩ := getF_ok T S1 r1 hg
    have F := T c i hi
    rw [ho.1]
    refine ⟨a, p.ca c, dx, _, u, e2, h2, F.cl, F.no, hl, ?_⟩
    refine tG_bS (rel := RD p) S1 L1 P1 fun w vw μ3 st3 H3 e4 S3 L3 r3 P3 => ?_
    cases hf : g d w μ3 with
    | none => simp only [hf] at P3; exact P3.elim
    | some q =>
      obtain ⟨z, μ4⟩ := q
      simp only [hf] at P3
      split at P3
      case isFalse => exact P3.elim
      case isTrue hcl =>
      refine hr st3 μ3 μ4 H3 d w z u vw _ S3 (ru.mono e4) r3 hf fun st4 H4 v4 e5 S4 r4 => ?_
      have P4 := P3.ext e5
      cases hs : setF tb x z μ4 with
      | none => rw [hs] at P4; exact P4.elim
      | some μ5 =>
        rw [hs] at P4
        obtain ⟨a', C', dx', fs', e6, h6, h7, h8, h9, E', S5⟩ := setF_ok T S4 (r1.mono (e4.trans e5)) r4 hs
        have ea : a' = a := by rw [e2] at e6; cases e6; rfl
        subst ea
        have eC : C' = p.ca c := by
          subst ek
          simp only [clsOf, hm] at hcl
          split at hcl
          · rename_i c2 ds2 hk2
            cases hcl
            obtain ⟨ho, h10, r10⟩ := S4.cel kk a' _ (e5.get (e4.get hk)) hk2
            obtain ⟨dx2, vs2, e11, _⟩ := r10
            rw [h6] at h10
            cases h10
            cases e11
            rfl
          · cases hcl
        subst eC
        exact ⟨dx', fs', h6, h9, P4 st4 σ _ E' S5 ((L3.mono e5).mono E')⟩
end
end Ab

set_option maxRecDepth 100000
set_option maxHeartbeats 1000000
namespace Ab
open PySem L2 PyProof.Rows
/-! ### != by the own == -/
theorem ne_tree {prog : Program} {w : World} {A : Around} {E : Value → Shared → Prop} {s : Shared} {K : PySem.W.Frag} {x C f : Addr} {ox : Obj} {od : Option Obj} {b : Value} {Q : Fin → Shared → Prop} (hu : A.units < cLine) (X : K.In s.heap) (I : PySem.W.InstAt s.heap x ox C od)
    (hs : PySem.W.findIn K (.ref C) "__eq__" = some (some (.ref f))) (hf : PySem.W.isFn K (.ref f) = true)
    (h : wpAny (model prog w) A (call (.ref f) [.ref x, b]) (fun v s' => ∃ y, v = .bool y ∧ Q (.done (.ret (.bool (!y)))) s') E s) : wpAny (model prog w) A (Builtin.«object.__ne__» ⟨[.ref x, b], []⟩) Q E s := by
  unfold Builtin.«object.__ne__»
  repeat (first
    | with_reducible refine wpAny_cRoomFor hu ?_
    | (refine wpAny_bind (m := callSpecialIfBound? (.ref x) (Str.ofString "__eq__") [b])
        (PySem.W.ifBound_K X I hs hf (wpAny_mono h (fun r s' hr => by
          obtain ⟨y, rfl, hq⟩ := hr
          repeat (first | exact hq | exact wpAny_pure hq | exact wpAny_truthy_bool hq | (refine wpAny_bind (m := truthy (.bool _)) (wpAny_truthy_bool ?_)) | wp_step)) fun _ _ e => e)))
    | wp_step)
theorem ne_slot : Slot "object" "__ne__" "object.__ne__" :=
  Slot.of (owner := "object") (n := "__ne__") (by rw [typeLookup_type, builtinLookup_eq_fast]; kernel_rfl) (by decide +kernel) (by decide +kernel) (by decide +kernel) (.inl (by decide +kernel)) (by rw [isSubtype_type]; kernel_rfl)
theorem ne_bound {M : Model} {A : Around} {E : Value → Shared → Prop} {s : Shared} {K : PySem.W.Frag} {x C : Addr} {ox : Obj} {od : Option Obj} {args : List Value} {Q : Option Value → Shared → Prop} (X : K.In s.heap) (I : PySem.W.InstAt s.heap x ox C od)
    (hs : PySem.W.findIn K (.ref C) "__ne__" = some (some (.builtin "object.__ne__")))
    (h : wpAny M A (call (.builtin "object.__ne__") (.ref x :: args)) (fun v => Q (some v)) E s) : wpAny M A (callSpecialIfBound? (.ref x) "__ne__" args) Q E s := by
  simp only [callSpecialIfBound?, bindSpecialIfBound?]
  refine wpAny_holding (wpAny_bind (wpAny_bind (wpAny_bind (I.type.here ((PySem.W.looks_findIn X hs).here ?_)))))
  simp only [ne_slot.bind]
  refine wpAny_bind (wpAny_askSetting (wpAny_ite ?_))
  have fin : wpAny M A (call (.builtin "object.__ne__") ([.ref x] ++ args) >>= fun v => pure (some v)) Q E s := wpAny_bind (wpAny_mono h (fun v s' h' => wpAny_pure h') fun _ _ h' => h')
  split
  · exact wpAny_bind (wpAny_pure (wpAny_pure fin))
  · exact wpAny_tryCatch (wpAny_bind (wpAny_pure (wpAny_pure fin)))
theorem ne_check {M : Model} {A : Around} {E : Value → Shared → Prop} {s : Shared} {K : PySem.W.Frag} {x C : Addr} {ox : Obj} {od : Option Obj} {b : Value} {Q : Unit → Shared → Prop} (X : K.In s.heap) (I : PySem.W.InstAt s.heap x ox C od) (hm : PySem.W.mroIn K C (.type "object") = some true)
    (hq : Q () s) : wpAny M A (checkBuiltinCall "object.__ne__" ⟨[.ref x, b], []⟩) Q E s := by
  simp only [checkBuiltinCall, F.cmpKind_ne, F.cmpSplit_ne]
  have ha := F.cmpArgs_ne (.ref x) b
  refine wpAny_bind ?_
  unfold isInstance
  refine wpAny_bind (I.type.here ((PySem.W.looks_mroIn X hm).here ?_))
  show wpAny M A (match Manifest.signature? "object.__ne__" with | some sig => Bind.checkArgs "object.__ne__" sig { pos := [Value.ref x, b] } | x => pure ()) Q E s
  cases hsig : Manifest.signature? "object.__ne__" with
  | none => exact wpAny_pure hq
  | some sig =>
    simp only [argsOk, hsig] at ha
    have h2 : Bind.checkArgs "object.__ne__" sig ⟨[.ref x, b], []⟩ = pure () := ha
    show wpAny M A (Bind.checkArgs "object.__ne__" sig ⟨[.ref x, b], []⟩) Q E _
    rw [h2]; exact wpAny_pure hq
/-- x != b by the own == of x's class -/
theorem ne_K {prog : Program} {w : World} {A : Around} {E : Value → Shared → Prop} {s : Shared} {K : PySem.W.Frag} {x C f : Addr} {ox : Obj} {od : Option Obj} {b tb : Value} {Q : Value → Shared → Prop} (hu : A.units + 1 < cLine) (X : K.In s.heap) (I : PySem.W.InstAt s.heap x ox C od)
    (hb : PySem.W.Looks (model prog w) s.heap (typeOf b) tb) (hn : PySem.W.notFirst K C tb = true)
    (hs : PySem.W.findIn K (.ref C) "__eq__" = some (some (.ref f))) (hf : PySem.W.isFn K (.ref f) = true) (hne : PySem.W.findIn K (.ref C) "__ne__" = some (some (.builtin "object.__ne__"))) (hm : PySem.W.mroIn K C (.type "object") = some true)
    (h : wpAny (model prog w) A.in1 (call (.ref f) [.ref x, b]) (fun v s' => ∃ y, v = .bool y ∧ Q (.bool (!y)) s') E s) : wpAny (model prog w) A (compareOp .NotEq (.ref x) b) Q E s := by
  have one : wpAny (model prog w) A (tryCompare (.ref x) "__ne__" b) (fun r s' => ∃ v, r = some v ∧ Q v s') E s := by
    unfold tryCompare
    refine wpAny_bind (ne_bound X I hne (wpAny_call (codeAny_call_builtin ne_slot.plain F.cmpEntry_ne (ne_check X I hm (ne_tree (A := A.in1) hu X I hs hf (wpAny_mono h (fun v s' hv => ?_) fun _ _ e => e))))))
    obtain ⟨y, rfl, hq⟩ := hv
    first | exact ⟨y, rfl, wpAny_pure ⟨_, rfl, hq⟩⟩ | exact ⟨y, rfl, wpAny_pure (wpAny_pure ⟨_, rfl, hq⟩)⟩ | exact ⟨y, rfl, _, rfl, hq⟩
  unfold compareOp richCompare
  simp only [oneThing_ref]
  refine wpAny_holding (wpAny_bind (wpAny_cRoomFor (Nat.lt_of_succ_lt hu) ?_))
  rw [cmpInfo_NotEq]
  dsimp only
  refine wpAny_bind (I.type.here (wpAny_bind (hb.here ?_)))
  split
  · rename_i q
    have e : PySem.W.subIn K tb (.ref C) = some false := by
      rcases Bool.or_eq_true_iff.mp hn with e | e
      · rw [beq_iff_eq.mp e] at q; simp at q
      · exact beq_iff_eq.mp e
    refine wpAny_bind ((PySem.W.looks_subIn X e).here ?_)
    simp only [Bool.false_eq_true, if_false]
    refine wpAny_bind (wpAny_mono one (fun r s' z => ?_) fun _ _ e => e)
    obtain ⟨v, rfl, hq⟩ := z
    exact wpAny_pure hq
  · refine wpAny_bind (wpAny_pure ?_)
    simp only [Bool.false_eq_true, if_false]
    refine wpAny_bind (wpAny_mono one (fun r s' z => ?_) fun _ _ e => e)
    obtain ⟨v, rfl, hq⟩ := z
    exact wpAny_pure hq
end Ab

set_option maxRecDepth 100000
set_option maxHeartbeats 1000000
namespace Ab
open PySem L2 PyProof.Rows
section
variable {p : Par} {X : Cx} {W : WX} {pos pp apos : Pos} {e o a b : Expr} {es : List Expr} {x m : Str} {me mo va vb : M D} {ma : M (List D)} {k : Nat} {f : Addr} {g : Fn}

theorem ae_fdiv (ha : AE p X W a va) (hb : AE p X W b vb) : AE p X W (.BinOp a .FloorDiv b pos) (eN false gFdiv va vb) :=
  ae_op op_fdivW (opN_I (fun i j h => by
    have h' := of_decide_eq_true h
    exact wide_div h'.1 (show j.natAbs < 2 ^ 30 by omega) (by decide) (by decide)) (fun i j st H => by simp [RD]) false) ha hb

/-! ### types of values -/
inductive Ty where
  | bt (n : String) | own (c : Nat)
def tyD (μ : Sto) : D → Option Ty
  | .non => some (.bt "NoneType")
  | .bl _ => some (.bt "bool")
  | .int _ => some (.bt "int")
  | .str _ => some (.bt "str")
  | .tup _ => some (.bt "tuple")
  | .lst _ => some (.bt "list")
  | .dic _ _ => some (.bt "dict")
  | .ro _ => some (.bt "list")
  | .ref k => match μ[k]? with
    | some (.lst _) => some (.bt "list")
    | some (.dic _ _) => some (.bt "dict")
    | some (.ins c _) => some (.own c)
    | _ => none
def tyV' (p : Par) : Ty → Value
  | .bt n => .type n
  | .own c => .ref (p.ca c)
/-- what isinstance asks of the class c -/
structure InsTy (p : Par) (c : Nat) : Prop where
  cl : Cls p.K (p.ca c)
  ha : PySem.W.findIn p.K (.ref (p.ca c)) "__class__" = some (some (.builtin "object.__class__"))
  hn : PySem.W.specialIn p.K (.builtin "object.__class__") "__get__" = some (some (.builtin "getset_descriptor.__get__"))
  htk : PySem.W.takesIn p.K (.builtin "object.__class__") = some true
  hm : PySem.W.mroIn p.K (p.ca c) (.type "object") = some true
def tyOk (cs : List Nat) : Ty → Bool
  | .bt _ => true
  | .own c => cs.contains c
theorem tyD_ok {cs : List Nat} {st : Wd} {H : Hp} {μ : Sto} {d : D} {v : V} {t : Ty} (T : ∀ c ∈ cs, InsTy p c) (S : Sim p st μ H) (r : RD p st H d v) (h : tyD μ d = some t) (hc : tyOk cs t = true) : TyX p.K H v (tyV' p t) := by
  cases d with
  | non => simp only [RD] at r; simp only [tyD, Option.some.injEq] at h; subst r; subst h; exact .base .non
  | bl b => simp only [RD] at r; simp only [tyD, Option.some.injEq] at h; subst r; subst h; exact .base (.bl b)
  | int i => simp only [RD] at r; simp only [tyD, Option.some.injEq] at h; subst r; subst h; exact .base (.int i)
  | str l => simp only [RD] at r; simp only [tyD, Option.some.injEq] at h; obtain ⟨r, _⟩ := r; subst r; subst h; exact .base (.str _)
  | tup ds =>
    simp only [RD] at r; simp only [tyD, Option.some.injEq] at h; subst h
    obtain ⟨a, vs, e1, h1, _⟩ := r
    subst e1
    rcases h1 with (h1 | ⟨o, h1⟩) | ⟨o, its, n, h1, h2, _⟩
    · exact .base (.tup h1)
    · exact .fTuple h1
    · exact .kTuple h1 h2
  | lst ds =>
    simp only [RD] at r; simp only [tyD, Option.some.injEq] at h; subst h
    obtain ⟨a, vs, e1, h1, _⟩ := r
    subst e1
    exact .base (.lst h1.2)
  | dic ks ds =>
    simp only [RD] at r; simp only [tyD, Option.some.injEq] at h; subst h
    obtain ⟨a, vs, e1, h1, _⟩ := r
    subst e1
    exact .base (.dK h1.2)
  | ro ns =>
    simp only [RD] at r; simp only [tyD, Option.some.injEq] at h; subst h
    obtain ⟨a, e1, h1⟩ := r
    subst e1
    rcases h1 with ⟨_, h1 | ⟨o, h1⟩⟩ | ⟨o, its, n, h1, h2, _⟩
    · exact .base (.lst h1)
    · exact .base (.frz h1)
    · exact .kList h1 h2
  | ref k =>
    simp only [RD] at r
    obtain ⟨a, e1, h1⟩ := r
    subst e1
    simp only [tyD] at h
    cases hk : μ[k]? with
    | none => rw [hk] at h; cases h
    | some o =>
      obtain ⟨ho, h2, r2⟩ := S.cel k a o h1 hk
      cases o with
      | lst ds =>
        simp only [hk, Option.some.injEq] at h; subst h
        obtain ⟨vs, e2, _⟩ := r2
        subst e2
        exact .base (.lst h2)
      | dic ks ds =>
        simp only [hk, Option.some.injEq] at h; subst h
        obtain ⟨vs, e2, _⟩ := r2
        subst e2
        exact .base (.dK h2)
      | ins c ds =>
        simp only [hk, Option.some.injEq] at h; subst h
        obtain ⟨dx, vs, e2, _⟩ := r2
        subst e2
        have t := T c (by simpa [tyOk] using hc)
        exact .base (.ins h2 t.cl t.ha t.hn t.htk t.hm)
      | dead => simp [hk] at h
/-! ### isinstance(x, one class), as the answers of a table -/
def lkT (tb : List (Ty × Bool)) (t : Ty) : Option Bool := match tb with
  | [] => none
  | (u, b) :: r => (match u, t with
    | .bt m, .bt n => if m = n then some b else lkT r t
    | .own c, .own d => if c = d then some b else lkT r t
    | _, _ => lkT r t)
/-- the table tells kitOne's answers -/
def TbOk (p : Par) (c : Value) (tb : List (Ty × Bool)) : Prop := ∀ t b, lkT tb t = some b → PySem.W.kitOne p.K (tyV' p t) c = some b
theorem tbOk_nil {c : Value} : TbOk p c [] := fun t b h => by simp [lkT] at h
theorem tbOk_bt {c : Value} {n : String} {b : Bool} {tb : List (Ty × Bool)} (h : PySem.W.kitOne p.K (.type n) c = some b) (r : TbOk p c tb) : TbOk p c ((.bt n, b) :: tb) := by
  intro t b' h'
  cases t with
  | bt m =>
    simp only [lkT] at h'
    split at h'
    · rename_i e; subst e; cases h'; exact h
    · exact r _ _ h'
  | own d => simp only [lkT] at h'; exact r _ _ h'
theorem tbOk_own {c : Value} {n : Nat} {b : Bool} {tb : List (Ty × Bool)} (h : PySem.W.kitOne p.K (.ref (p.ca n)) c = some b) (r : TbOk p c tb) : TbOk p c ((.own n, b) :: tb) := by
  intro t b' h'
  cases t with
  | bt m => simp only [lkT] at h'; exact r _ _ h'
  | own d =>
    simp only [lkT] at h'
    split at h'
    · rename_i e; subst e; cases h'; exact h
    · exact r _ _ h'
def eIsi (cs : List Nat) (tb : List (Ty × Bool)) (m : M D) : M D := bnd m fun d => fun _ μ => match tyD μ d with
  | some t => if tyOk cs t then (lkT tb t).map fun b => .ok (.bl b) μ else none
  | none => none
theorem ae_isi {cs : List Nat} {tb : List (Ty × Bool)} {c : V} {u : Value} {ce : Expr} (T : ∀ c ∈ cs, InsTy p c) (hc : PE X ce (tC c)) (hu : ClsV c u) (hT : TbOk p u tb) (hg : Gl X "isinstance") (hm : X.mg "isinstance" = none) (he : AE p X W e me)
    (hs : starEach [e, ce] X.env = (false, eval e X.env) :: starEach [ce] X.env := by rfl) (hs1 : starEach [ce] X.env = (false, eval ce X.env) :: starEach [] X.env := by rfl) (hpl : (backTo pos (starEach [ce] X.env)).any (·.1) = false := by rfl) :
    AE p X W (.Call (.Name "isinstance" pp) [e, ce] [] pos) (eIsi cs tb me) := by
  refine ⟨he.1, PE.imp (pe_callB call_isi hg hm (by decide +kernel) (pa_cons he.2 (pa_cons hc pa_nil hs1) hs) (hn := by decide) (hdb := by decide) (he := hs) (hpl := hpl)) fun σ H Q ⟨Γ, μ, st, S, L, P⟩ => ?_⟩
  refine tG_bndE (rel := RD p) S L P fun d v μ1 st1 H1 e1 S1 L1 r1 P1 => ?_
  cases ht : tyD μ1 d with
  | none => simp only [ht] at P1; exact P1.elim
  | some t =>
    simp only [ht] at P1
    cases hk : tyOk cs t with
    | false => simp only [hk] at P1; exact P1.elim
    | true =>
      simp only [hk, if_true] at P1
      cases hl : lkT tb t with
      | none => simp only [hl] at P1; exact P1.elim
      | some b =>
        simp only [hl] at P1
        refine ⟨v, c, tyV' p t, u, b, rfl, hu, ?_, ?_, P1 st1 H1 _ Ext.refl S1 (by simp [RD])⟩
        · rw [he.1]; exact tyD_ok T S1 r1 ht hk
        · rw [he.1]; exact hT t b hl

/-! ### own special methods that never raise -/
/-- a call of g, whatever stands outside -/
def spN (p : Par) (g : Fn) (vs : List V) (H : Hp) (Q : VK) : Prop := ∀ E, spA p g vs H Q E
theorem spN_of {st : Wd} {μ μ' : Sto} {H : Hp} {ds : List D} {vs : List V} {d : D} {Q : VK} (S : Sim p st μ H) (r : RDs p st H ds vs) (h : g ds μ = some (.ok d μ')) (k : ∀ st' H' u, Ext p st H st' H' → Sim p st' μ' H' → RD p st' H' d u → Q u H') : spN p g vs H Q :=
  fun E => ⟨ds, μ, st, S, r, by rw [h]; exact fun st' H' u e' S' r' => k st' H' u e' S' r'⟩
theorem run_n {A : Around} {pins : List (Addr × Obj)} {σ : L2.St} {H : Hp} {s : Shared} {Q : VK} {us : List Value} {vs : List V} (tk : Takes X W) (F : FnR X.prog X.w X.K X.mg X.base (L2.CX X.prog X.w) k f (spA p g)) (hr : Room k A) (e0 : Env0 X.prog X.w X.K X.mg X.base A X.stack s H)
    (I : Inv X pins σ H s) (r : Vals vs us) (h : spN p g vs H Q) : wpAny (model X.prog X.w) A (call (.ref f) us) (EP X pins σ Q) X.xe s :=
  wpAny_call (codeAny_mono (F A X.stack s H us vs Q (WE W σ) hr e0 r (h _)) fun r s' hq => match r, hq with
    | .error e, hq => passAt tk σ pins H s e s' I hq
    | .ok (.ret u), hq => I.after hq
    | .ok .next, hq => hq.elim
    | .ok .brk, hq => hq.elim
    | .ok .cont, hq => hq.elim)
/-- the class c has the def at f under the name m -/
structure OwnOk (p : Par) (c : Nat) (m : Str) (f : Addr) : Prop where
  at_ : PySem.W.findIn p.K (.ref (p.ca c)) m = some (some (.ref f))
  fn : PySem.W.isFn p.K (.ref f) = true
theorem inst_at {pins : List (Addr × Obj)} {σ : L2.St} {H : Hp} {s : Shared} {q C dx : Addr} {fs : List (Str × V)} (I : Inv X pins σ H s) (h : H q = some (.ins C dx fs)) : ∃ ox od, PySem.W.InstAt s.heap q ox C od := by
  obtain ⟨mA, J, _⟩ := ins_get I.hok h
  obtain ⟨od, J, _⟩ := J.look
  exact ⟨_, _, J⟩
theorem ins_at {c : Nat} {ds : List D} {kk : Nat} {st : Wd} {μ : Sto} {H : Hp} {v : V} (S : Sim p st μ H) (r : RD p st H (.ref kk) v) (h : μ[kk]? = some (.ins c ds)) : ∃ q dx fs, v = .ref q ∧ H q = some (.ins (p.ca c) dx fs) := by
  simp only [RD] at r
  obtain ⟨q, e1, h1⟩ := r
  obtain ⟨ho, h2, r2⟩ := S.cel kk q _ h1 h
  obtain ⟨dx, vs, e2, _⟩ := r2
  subst e2
  exact ⟨q, dx, _, e1, h2⟩
/-- calls by values with a store -/
def CaS (p : Par) (r : List V → Hp → VK → Prop) (g : List D → Sto → Option (D × Sto)) : Prop := ∀ (st : Wd) (μ μ' : Sto) (H : Hp) (xs : List D) (z : D) (vs : List V) (Q : VK), Sim p st μ H → RDs p st H xs vs → g xs μ = some (z, μ') →
  (∀ st' H' u, Ext p st H st' H' → Sim p st' μ' H' → RD p st' H' z u → Q u H') → r vs H Q
def eCS (g : List D → Sto → Option (D × Sto)) (m : M (List D)) : M D := bnd m fun xs => opS (g xs)
theorem CaS.or {r r' : List V → Hp → VK → Prop} {g g' : List D → Sto → Option (D × Sto)} (h : CaS p r g) (h' : CaS p r' g') : CaS p (fun xs H Q => r xs H Q ∨ r' xs H Q) fun xs μ => match g xs μ with | some z => some z | none => g' xs μ := by
  intro st μ μ' H xs z vs Q S rx hf k
  cases e : g xs μ with
  | some q =>
    simp only [e] at hf
    exact .inl (h st μ μ' H xs z vs Q S rx (by rw [e]; exact hf) k)
  | none =>
    simp only [e] at hf
    exact .inr (h' st μ μ' H xs z vs Q S rx hf k)
theorem tCS_of {r : List V → Hp → VK → Prop} {g : List D → Sto → Option (D × Sto)} {m : M (List D)} (hr : CaS p r g) (σ : L2.St) (H : Hp) (Q : VK) (h : tA p W (eCS g m) σ H Q) : tCB r (tL p W m) σ H Q := by
  obtain ⟨Γ, μ, st, S, L, P⟩ := h
  refine tG_bndE (rel := RDs p) S L P fun xs vs μ1 st1 H1 e1 S1 L1 r1 P1 => ?_
  obtain ⟨z, μ3, hf, k⟩ := P1.opS
  exact hr st1 μ1 μ3 H1 xs z vs Q S1 r1 hf k
theorem ae_callBS {id : String} {r : List V → Hp → VK → Prop} {g : List D → Sto → Option (D × Sto)} {m : M (List D)} (hc : CallR X (.builtin id) r) (hr : CaS p r g) (hg : Gl X x) (hm : X.mg x = none) (hv : bootBuiltins x = some (.builtin id)) (ha : AA p X W (e :: es) m)
    (hn : x ≠ "__name__" := by decide) (hd : (x == ("__debug__" : Str)) = false := by decide) (he : starEach (e :: es) X.env = (false, eval e X.env) :: starEach es X.env := by rfl) (hpl : (backTo pos (starEach es X.env)).any (·.1) = false := by rfl) :
    AE p X W (.Call (.Name x pp) (e :: es) [] pos) (eCS g m) := ⟨ha.1, PE.imp (pe_callB hc hg hm hv ha.2 (hn := hn) (hdb := hd) (he := he) (hpl := hpl)) fun σ H Q h => tCS_of hr σ H Q h⟩
theorem ae_callTyS {T : String} {r : List V → Hp → VK → Prop} {g : List D → Sto → Option (D × Sto)} {m : M (List D)} (hc : CallR X (.type T) r) (hr : CaS p r g) (hg : Gl X x) (hm : X.mg x = none) (hv : bootBuiltins x = some (.type T)) (ha : AA p X W (e :: es) m)
    (hn : x ≠ "__name__" := by decide) (hd : (x == ("__debug__" : Str)) = false := by decide) (he : starEach (e :: es) X.env = (false, eval e X.env) :: starEach es X.env := by rfl) (hpl : (backTo pos (starEach es X.env)).any (·.1) = false := by rfl) :
    AE p X W (.Call (.Name x pp) (e :: es) [] pos) (eCS g m) := ⟨ha.1, PE.imp (pe_callTy hc hg hm hv ha.2 (hn := hn) (hdb := hd) (he := he) (hpl := hpl)) fun σ H Q h => tCS_of hr σ H Q h⟩
/-- an instance of the class c, then g -/
def insP (c : Nat) (x : D) (μ : Sto) : Bool := match x with
  | .ref k => match μ[k]? with | some (.ins c' _) => c' == c | _ => false
  | _ => false
theorem insP_ok {c : Nat} {x : D} {st : Wd} {μ : Sto} {H : Hp} {v : V} (S : Sim p st μ H) (r : RD p st H x v) (h : insP c x μ = true) : ∃ q dx fs, v = .ref q ∧ H q = some (.ins (p.ca c) dx fs) := by
  unfold insP at h
  split at h
  · split at h
    · rename_i kk _ c' ds hk
      simp only [beq_iff_eq] at h
      subst h
      exact ins_at S r hk
    · cases h
  · cases h
def natP : D → Bool
  | .int i => decide (0 ≤ i ∧ i < 1000000)
  | _ => false
def strP : D → Bool
  | .str _ => true
  | _ => false
def blP : D → Bool
  | .bl _ => true
  | _ => false
/-- g's value and store, if the test holds -/
def gRet (P : D → Bool) (r : R D) : Option (D × Sto) := match r with
  | some (.ok d μ') => if P d then some (d, μ') else none
  | _ => none
theorem gRet_some {P : D → Bool} {r : R D} {d : D} {μ' : Sto} (h : gRet P r = some (d, μ')) : r = some (.ok d μ') ∧ P d = true := by
  unfold gRet at h
  split at h
  · split at h
    · cases h; exact ⟨rfl, by assumption⟩
    · cases h
  · cases h
def gLenO (c : Nat) (g : Fn) : List D → Sto → Option (D × Sto)
  | [x], μ => if insP c x μ then gRet natP (g [x] μ) else none
  | _, _ => none
def rOne (p : Par) (c : Nat) (g : Fn) (P : V → Prop) : List V → Hp → VK → Prop := fun xs H Q => ∃ q dx fs, xs = [.ref q] ∧ H q = some (.ins (p.ca c) dx fs) ∧ spN p g xs H fun z H' => P z ∧ Q z H'
theorem cr_lenO {c : Nat} (tk : Takes X W) (hK : X.K = p.K) (T : OwnOk p c "__len__" f) (F : FnA X.prog X.w p X.mg X.base k f g) (hr : Room (k + 1) X.A) : CallR X (.builtin "len") (rOne p c g fun z => ∃ i, z = .int i ∧ 0 ≤ i ∧ i < 1000000) := by
  intro pins s σ H xs us Q I r h
  obtain ⟨q, dx, fs, rfl, hq, sp⟩ := h
  obtain ⟨u, rfl, ru⟩ := r.one
  cases (show u = Value.ref q from ru)
  obtain ⟨ox, od, J⟩ := inst_at I hq
  obtain ⟨m, hF⟩ := I.fr
  have F' : FnR X.prog X.w X.K X.mg X.base (L2.CX X.prog X.w) k f (spA p g) := by rw [hK]; exact F
  have hr1 : Room k X.A.in1 := Room.in1 hr
  refine PySem.W.len_K hF I.ok.mod.kin J (by rw [hK]; exact T.at_) (by rw [hK]; exact T.fn) (wpAny_mono (run_n (vs := [.ref q]) tk F' hr1 I.env0.in1 I (.cons rfl .nil) sp) (fun w s' z => ?_) fun _ _ x => x)
  obtain ⟨z', H', I', rz, ⟨i, ei, hi⟩, qz⟩ := z
  subst ei
  obtain ⟨t, e⟩ := (show ∃ t, w = Value.int i t from rz)
  cases e
  exact ⟨⟨hi.1, by omega⟩, .int i, H', I'.tok _, ⟨_, rfl⟩, qz⟩
theorem caS_one {c : Nat} {P : V → Prop} {Pb : D → Bool} (hP : ∀ st H d v, RD p st H d v → Pb d = true → P v) : CaS p (rOne p c g P) (fun xs μ => match xs with | [x] => if insP c x μ then gRet Pb (g [x] μ) else none | _ => none) := by
  intro st μ μ' H xs z vs Q S rx hf kk
  dsimp only at hf
  split at hf
  · rename_i x
    split at hf
    · rename_i hi
      obtain ⟨h1, h2⟩ := gRet_some hf
      obtain ⟨v, e1, r1⟩ := rd1 rx
      subst e1
      obtain ⟨q, dx, fs, e2, hq⟩ := insP_ok S r1 hi
      subst e2
      exact ⟨q, dx, fs, rfl, hq, spN_of S rx h1 fun st' H' u e' S' r' => ⟨hP st' H' z u r' h2, kk st' H' u e' S' r'⟩⟩
    · cases hf
  · cases hf
theorem natP_ok : ∀ st H d v, RD p st H d v → natP d = true → ∃ i, v = .int i ∧ 0 ≤ i ∧ i < 1000000 := by
  intro st H d v r h
  cases d with
  | int i => simp only [RD] at r; simp only [natP, decide_eq_true_eq] at h; exact ⟨i, r, h⟩
  | _ => simp [natP] at h
theorem strP_ok : ∀ st H d v, RD p st H d v → strP d = true → ∃ a, v = .str a := by
  intro st H d v r h
  cases d with
  | str l => simp only [RD] at r; exact ⟨_, r.1⟩
  | _ => simp [strP] at h
theorem blP_ok : ∀ st H d v, RD p st H d v → blP d = true → ∃ a, v = .bl a := by
  intro st H d v r h
  cases d with
  | bl l => simp only [RD] at r; exact ⟨_, r⟩
  | _ => simp [blP] at h
def gOne (c : Nat) (g : Fn) (Pb : D → Bool) : List D → Sto → Option (D × Sto) := fun xs μ => match xs with | [x] => if insP c x μ then gRet Pb (g [x] μ) else none | _ => none
/-- len(o) of an instance -/
theorem ae_lenO {c : Nat} (tk : Takes X W) (T : OwnOk p c "__len__" f) (F : FnA X.prog X.w p X.mg X.base k f g) (hr : Room (k + 1) X.A) (hg : Gl X "len") (hm : X.mg "len" = none) (ha : AA p X W [o] ma) (he : starEach [o] X.env = (false, eval o X.env) :: starEach [] X.env := by rfl) :
    AE p X W (.Call (.Name "len" pp) [o] [] pos) (eCS (gOne c g natP) ma) := ae_callBS (cr_lenO tk ha.1 T F hr) (caS_one natP_ok) hg hm (by decide +kernel) ha (hn := by decide) (hd := by decide) (he := he) (hpl := rfl)
/-- str(o) -/
theorem cr_strO {c : Nat} (tk : Takes X W) (hK : X.K = p.K) (T : OwnOk p c "__str__" f) (F : FnA X.prog X.w p X.mg X.base k f g) (hr : Room (k + 2) X.A) : CallR X (.type "str") (rOne p c g fun z => ∃ a, z = .str a) := by
  intro pins s σ H xs us Q I r h
  obtain ⟨q, dx, fs, rfl, hq, sp⟩ := h
  obtain ⟨u, rfl, ru⟩ := r.one
  cases (show u = Value.ref q from ru)
  obtain ⟨ox, od, J⟩ := inst_at I hq
  have F' : FnR X.prog X.w X.K X.mg X.base (L2.CX X.prog X.w) k f (spA p g) := by rw [hK]; exact F
  have hr1 : Room k X.A.in1.in1 := (show Room (k + 1) X.A.in1 from Room.in1 hr).in1
  refine PySem.W.kso_call hr1.units0 I.kIn J (by rw [hK]; exact T.at_) (by rw [hK]; exact T.fn) (wpAny_mono (run_n (vs := [.ref q]) tk F' hr1 I.env0.in1.in1 I (.cons rfl .nil) sp) (fun w s' z => ?_) fun _ _ x => x)
  obtain ⟨z', H', I', rz, ⟨i, ei⟩, qz⟩ := z
  subst ei
  obtain ⟨t, e⟩ := (show ∃ t, w = Value.str i t from rz)
  cases e
  exact ⟨.str i, H', I', ⟨_, rfl⟩, qz⟩
theorem ae_strO {c : Nat} (tk : Takes X W) (T : OwnOk p c "__str__" f) (F : FnA X.prog X.w p X.mg X.base k f g) (hr : Room (k + 2) X.A) (hg : Gl X "str") (hm : X.mg "str" = none) (ha : AA p X W [o] ma) (he : starEach [o] X.env = (false, eval o X.env) :: starEach [] X.env := by rfl) :
    AE p X W (.Call (.Name "str" pp) [o] [] pos) (eCS (gOne c g strP) ma) := ae_callTyS (cr_strO tk ha.1 T F hr) (caS_one strP_ok) hg hm (by decide +kernel) ha (hn := by decide) (hd := by decide) (he := he) (hpl := rfl)
/-! == and != -/
def tyIn (cs : List Nat) : Ty → Prop
  | .bt n => n ∈ ["NoneType", "bool", "int", "str", "tuple", "list", "dict"]
  | .own c => c ∈ cs
structure EqOk (p : Par) (cs : List Nat) (c : Nat) (f : Addr) : Prop where
  eq : OwnOk p c "__eq__" f
  nf : ∀ t, tyIn cs t → PySem.W.notFirst p.K (p.ca c) (tyV' p t) = true
  ne : PySem.W.findIn p.K (.ref (p.ca c)) "__ne__" = some (some (.builtin "object.__ne__"))
  mo : PySem.W.mroIn p.K (p.ca c) (.type "object") = some true
  ty : ∀ c ∈ cs, InsTy p c
theorem tyD_in {cs : List Nat} {μ : Sto} {d : D} {t : Ty} (h : tyD μ d = some t) (hc : tyOk cs t = true) : tyIn cs t := by
  cases d <;> simp only [tyD, Option.some.injEq] at h
  case ref k =>
    split at h <;> simp only [Option.some.injEq, reduceCtorEq] at h <;> subst h <;> first | (simp [tyIn]; done) | simpa [tyOk, tyIn] using hc
  all_goals (subst h; simp [tyIn])
def rCmpO (p : Par) (c : Nat) (g : Fn) (P : V → Prop) (h : V → V) : R2 := fun x y H Q => ∃ q dx fs t, x = .ref q ∧ H q = some (.ins (p.ca c) dx fs) ∧ TyX p.K H y t ∧ PySem.W.notFirst p.K (p.ca c) t = true ∧ spN p g [x, y] H fun z H' => P z ∧ Q (h z) H'
theorem op_eqO {cs : List Nat} {c : Nat} (tk : Takes X W) (hK : X.K = p.K) (T : EqOk p cs c f) (F : FnA X.prog X.w p X.mg X.base k f g) (hr : Room k X.A) : OpR X (compareOp .Eq) (rCmpO p c g (fun _ => True) id) := by
  intro pins s σ H x y v u Q I rx ry h
  obtain ⟨q, dx, fs, t, rfl, hq, ht, hn, sp⟩ := h
  cases (show v = Value.ref q from rx)
  obtain ⟨ox, od, J⟩ := inst_at I hq
  obtain ⟨m, hF⟩ := I.fr
  have F' : FnR X.prog X.w X.K X.mg X.base (L2.CX X.prog X.w) k f (spA p g) := by rw [hK]; exact F
  rw [← hK] at ht hn
  obtain ⟨P, Z, hP, _⟩ := kit_of I ry ht
  show wpAny (model X.prog X.w) X.A (richCompare .Eq (.ref q) u) _ _ s
  refine PySem.W.cmp_K (op := .Eq) (tb := t) hr.units0 hF I.ok.mod.kin J (Z.ty _ _ I.kIn hP) hn (by rw [hK]; exact T.eq.at_) (by rw [hK]; exact T.eq.fn) (wpAny_mono (run_n (vs := [.ref q, y]) tk F' hr I.env0 I (.cons rfl (.cons ry .nil)) sp) (fun w s' z => ?_) fun _ _ x => x)
  obtain ⟨z', H', I', rz, _, qz⟩ := z
  exact SlX.cmpback rz ⟨z', H', I', rz, qz⟩
theorem op_neO {cs : List Nat} {c : Nat} (tk : Takes X W) (hK : X.K = p.K) (T : EqOk p cs c f) (F : FnA X.prog X.w p X.mg X.base k f g) (hr : Room (k + 1) X.A) : OpR X (compareOp .NotEq) (rCmpO p c g (fun z => ∃ b, z = .bl b) fun z => match z with | .bl b => .bl (!b) | z => z) := by
  intro pins s σ H x y v u Q I rx ry h
  obtain ⟨q, dx, fs, t, rfl, hq, ht, hn, sp⟩ := h
  cases (show v = Value.ref q from rx)
  obtain ⟨ox, od, J⟩ := inst_at I hq
  have F' : FnR X.prog X.w X.K X.mg X.base (L2.CX X.prog X.w) k f (spA p g) := by rw [hK]; exact F
  rw [← hK] at ht hn
  obtain ⟨P, Z, hP, _⟩ := kit_of I ry ht
  refine ne_K (K := X.K) (tb := t) (by have := hr.units; omega) I.kIn J (Z.ty _ _ I.kIn hP) hn (by rw [hK]; exact T.eq.at_) (by rw [hK]; exact T.eq.fn) (by rw [hK]; exact T.ne) (by rw [hK]; exact T.mo)
    (wpAny_mono (run_n (vs := [.ref q, y]) tk F' hr.in1 I.env0.in1 I (.cons rfl (.cons ry .nil)) sp) (fun w s' z => ?_) fun _ _ x => x)
  obtain ⟨z', H', I', rz, ⟨b, eb⟩, qz⟩ := z
  subst eb
  cases (show w = Value.bool b from rz)
  exact ⟨b, rfl, .bl (!b), H', I', rfl, qz⟩
def fCmpO (cs : List Nat) (c : Nat) (g : Fn) (neg : Bool) : D → D → Sto → Option (D × Sto) := fun x y μ => if insP c x μ then (match tyD μ y with
  | some t => if tyOk cs t then (gRet blP (g [x, y] μ)).map (fun z => (match z.1 with | .bl b => .bl (if neg then !b else b) | d => d, z.2)) else none
  | none => none) else none
theorem opS_eqO {cs : List Nat} {c : Nat} (T : EqOk p cs c f) : OpS p (rCmpO p c g (fun _ => True) id) (fCmpO cs c g false) := by
  intro st μ μ' H x y z v w Q S rx ry hf kk
  unfold fCmpO at hf
  split at hf
  · rename_i hi
    split at hf
    · rename_i t ht
      split at hf
      · rename_i hc
        obtain ⟨q, dx, fs, e2, hq⟩ := insP_ok S rx hi
        simp only [Option.map_eq_some_iff] at hf
        obtain ⟨⟨d, μ1⟩, h1, h2⟩ := hf
        obtain ⟨h3, h4⟩ := gRet_some h1
        subst e2
        cases d with
        | bl b =>
          simp only [Bool.false_eq_true, if_false, Prod.mk.injEq] at h2
          obtain ⟨e1, e2⟩ := h2
          subst e1; subst e2
          exact ⟨q, dx, fs, _, rfl, hq, tyD_ok T.ty S ry ht hc, T.nf t (tyD_in ht hc), spN_of S (RDs.cons rx (RDs.one ry)) h3 fun st' H' u e' S' r' => ⟨trivial, kk st' H' u e' S' r'⟩⟩
        | _ => simp [blP] at h4
      · cases hf
    · cases hf
  · cases hf
theorem opS_neO {cs : List Nat} {c : Nat} (T : EqOk p cs c f) : OpS p (rCmpO p c g (fun z => ∃ b, z = .bl b) fun z => match z with | .bl b => .bl (!b) | z => z) (fCmpO cs c g true) := by
  intro st μ μ' H x y z v w Q S rx ry hf kk
  unfold fCmpO at hf
  split at hf
  · rename_i hi
    split at hf
    · rename_i t ht
      split at hf
      · rename_i hc
        obtain ⟨q, dx, fs, e2, hq⟩ := insP_ok S rx hi
        simp only [Option.map_eq_some_iff] at hf
        obtain ⟨⟨d, μ1⟩, h1, h2⟩ := hf
        obtain ⟨h3, h4⟩ := gRet_some h1
        subst e2
        cases d with
        | bl b =>
          simp only [if_true, Prod.mk.injEq] at h2
          obtain ⟨e1, e2⟩ := h2
          subst e1; subst e2
          refine ⟨q, dx, fs, _, rfl, hq, tyD_ok T.ty S ry ht hc, T.nf t (tyD_in ht hc), spN_of S (RDs.cons rx (RDs.one ry)) h3 fun st' H' u e' S' r' => ?_⟩
          simp only [RD] at r'
          subst r'
          exact ⟨⟨b, rfl⟩, kk st' H' _ e' S' (by simp [RD])⟩
        | _ => simp [blP] at h4
      · cases hf
    · cases hf
  · cases hf
theorem ae_eqO {cs : List Nat} {c : Nat} (tk : Takes X W) (T : EqOk p cs c f) (F : FnA X.prog X.w p X.mg X.base k f g) (hr : Room k X.A) (ha : AE p X W a va) (hb : AE p X W b vb) : AE p X W (.Compare a [.Eq] [b] pos) (eOp (fCmpO cs c g false) va vb) :=
  ae_cmp (op_eqO tk ha.1 T F hr) (opS_eqO T) ha hb (nobehind _ (by decide) (by decide))
theorem ae_neO {cs : List Nat} {c : Nat} (tk : Takes X W) (T : EqOk p cs c f) (F : FnA X.prog X.w p X.mg X.base k f g) (hr : Room (k + 1) X.A) (ha : AE p X W a va) (hb : AE p X W b vb) : AE p X W (.Compare a [.NotEq] [b] pos) (eOp (fCmpO cs c g true) va vb) :=
  ae_cmp (op_neO tk ha.1 T F hr) (opS_neO T) ha hb (nobehind _ (by decide) (by decide))
end
end Ab

set_option maxRecDepth 100000
set_option maxHeartbeats 1000000
namespace Ab
open PySem L2 PyProof.Rows PySem.Spec
/-! ### the order of texts -/
def leL (a b : List Nat) : Bool := !ltCps b a
theorem lt_irr : ∀ a, ltCps a a = false
  | [] => rfl
  | a :: r => by simp [ltCps, lt_irr r]
theorem lt_tri : ∀ a b, ltCps a b = true ∨ a = b ∨ ltCps b a = true
  | [], [] => by simp
  | [], _ :: _ => by simp [ltCps]
  | _ :: _, [] => by simp [ltCps]
  | a :: r, b :: t => by
    rcases Nat.lt_trichotomy a b with h | h | h
    · exact .inl (by simp [ltCps, h])
    · subst h
      rcases lt_tri r t with h | h | h
      · exact .inl (by simp [ltCps, h])
      · subst h; exact .inr (.inl rfl)
      · exact .inr (.inr (by simp [ltCps, h]))
    · exact .inr (.inr (by simp [ltCps, h]))
theorem lt_tr : ∀ a b c, ltCps a b = true → ltCps b c = true → ltCps a c = true
  | [], [], _, h, _ => by simp [ltCps] at h
  | [], _ :: _, [], _, h => by simp [ltCps] at h
  | [], _ :: _, _ :: _, _, _ => by simp [ltCps]
  | _ :: _, [], _, h, _ => by simp [ltCps] at h
  | _ :: _, _ :: _, [], _, h => by simp [ltCps] at h
  | a :: r, b :: t, c :: u, h, k => by
    simp only [ltCps, Bool.or_eq_true, decide_eq_true_eq, Bool.and_eq_true, beq_iff_eq] at *
    rcases h with h | ⟨h, h'⟩
    · rcases k with k | ⟨k, k'⟩
      · exact .inl (by omega)
      · subst k; exact .inl h
    · subst h
      rcases k with k | ⟨k, k'⟩
      · exact .inl k
      · subst k; exact .inr ⟨rfl, lt_tr r t u h' k'⟩
theorem le_tr (a b c : List Nat) (h : leL a b = true) (k : leL b c = true) : leL a c = true := by
  simp only [leL, Bool.not_eq_true'] at *
  cases hca : ltCps c a with
  | false => rfl
  | true =>
    rcases lt_tri b a with q | q | q
    · rw [q] at h; cases h
    · subst q; rw [hca] at k; cases k
    · have := lt_tr c a b hca q; rw [this] at k; cases k
theorem le_tot (a b : List Nat) : (leL a b || leL b a) = true := by
  simp only [leL, Bool.or_eq_true, Bool.not_eq_true']
  rcases lt_tri a b with q | q | q
  · left
    cases h : ltCps b a with
    | false => rfl
    | true => have := lt_tr a b a q h; rw [lt_irr] at this; cases this
  · subst q; left; exact lt_irr a
  · right
    cases h : ltCps a b with
    | false => rfl
    | true => have := lt_tr a b a h q; rw [lt_irr] at this; cases this
theorem le_asy (a b : List Nat) (h : leL a b = true) (k : leL b a = true) : a = b := by
  simp only [leL, Bool.not_eq_true'] at *
  rcases lt_tri a b with q | q | q
  · rw [q] at k; cases k
  · exact q
  · rw [q] at h; cases h
def sortL (xs : List (List Nat)) : List (List Nat) := xs.mergeSort leL
theorem rising_pw : ∀ (ys : List Str) (x : Str), risingS x ys = true → (x :: ys).Pairwise fun a b => leL a.cps.toList b.cps.toList = true
  | [], x, _ => by simp
  | y :: ys, x, h => by
    simp only [risingS, Bool.and_eq_true, Bool.not_eq_true'] at h
    have ih := rising_pw ys y h.2
    refine List.pairwise_cons.mpr ⟨fun z hz => ?_, ih⟩
    have h1 : leL x.cps.toList y.cps.toList = true := by simp only [leL, h.1]; rfl
    rcases List.mem_cons.mp hz with e | e
    · subst e; exact h1
    · exact le_tr _ _ _ h1 ((List.pairwise_cons.mp ih).1 z e)
theorem sorted_pw (ys : List Str) (h : sortedS ys = true) : ys.Pairwise fun a b => leL a.cps.toList b.cps.toList = true := by
  cases ys with
  | nil => simp
  | cons y ys => exact rising_pw ys y h
theorem mk_tl (x : Str) : mkS x.cps.toList = x := rfl
theorem sorted_eq {ys : List Str} {ls : List (List Nat)} (hp : ys.Perm (ls.map mkS)) (hs : sortedS ys = true) : ys = (sortL ls).map mkS := by
  have e : ys = (ys.map fun y => y.cps.toList).map mkS := by
    rw [List.map_map]
    conv => lhs; rw [← List.map_id ys]
    rfl
  have p1 : (ys.map fun y => y.cps.toList).Perm ls := by
    have := hp.map fun y => y.cps.toList
    rw [List.map_map] at this
    refine this.trans ?_
    have : (ls.map ((fun y : Str => y.cps.toList) ∘ mkS)) = ls := by
      conv => rhs; rw [← List.map_id ls]
      rfl
    rw [this]
  have w1 : (ys.map fun y => y.cps.toList).Pairwise fun a b => leL a b = true := by
    rw [List.pairwise_map]
    exact sorted_pw ys hs
  have w2 : (sortL ls).Pairwise fun a b => leL a b = true := List.pairwise_mergeSort le_tr le_tot ls
  have e2 : (ys.map fun y => y.cps.toList) = sortL ls := List.Perm.eq_of_pairwise (fun a b _ _ h k => le_asy a b h k) w1 w2 (p1.trans (List.mergeSort_perm ls leL).symm)
  rw [← e2]
  exact e
section
variable {p : Par} {X : Cx} {W : WX} {pos pp apos : Pos} {e o a b : Expr} {es : List Expr} {x m : Str} {me mo va vb : M D} {ma : M (List D)} {k : Nat} {f : Addr} {g : Fn}
def rdStrs {st : Wd} {H : Hp} : ∀ (ls : List (List Nat)), (∀ l ∈ ls, l.length ≤ 1000000) → RDs p st H (ls.map .str) ((ls.map mkS).map V.str)
  | [], _ => RDs.nil
  | l :: ls, h => RDs.cons (by simp only [RD]; exact ⟨trivial, sz6 (h l (by simp))⟩) (rdStrs ls fun l hl => h l (by simp [hl]))
/-- sorted(list of texts) -/
def gSortS : List D → Sto → Option NV
  | [d], μ => match asL μ d with
    | some ds => match asStrs ds with
      | some ls => if ls.length < 64 ∧ (ls.all fun l => decide (l.length ≤ 1000000)) = true then some (.l ((sortL ls).map .str)) else none
      | none => none
    | none => none
  | _, _ => none
theorem caN_sortS (hK : X.K = p.K) : CaN p (rSortedS X.K) gSortS := by
  intro c st μ μ' H xs z vs Q S rx hf k
  simp only [Option.map_eq_some_iff] at hf
  obtain ⟨n, hn, hf⟩ := hf
  unfold gSortS at hn
  split at hn
  · split at hn
    · rename_i ds hd
      split at hn
      · rename_i ls hl
        split at hn
        · rename_i hc
          cases hn
          obtain ⟨v, e1, h1⟩ := rd1 rx
          obtain ⟨a, ws, e2, h2, h3⟩ := asL_ok S h1 hd
          subst e2
          rw [asStrs_ok h3 hl] at h2
          refine ⟨a, ls.map mkS, e1, SqL.of h2, by rw [List.length_map]; exact hc.1, fun ys q hp hs hq => ?_⟩
          rw [sorted_eq hp hs]
          have hall : ∀ l ∈ sortL ls, l.length ≤ 1000000 := fun l h => by
            have h' := (List.mergeSort_perm ls leL).mem_iff.mp h
            have := List.all_eq_true.mp hc.2 l h'
            simpa using this
          refine fin_l (c := c) S (rdStrs (sortL ls) hall) hq ?_
          rw [hf]
          exact k
        · cases hn
      · cases hn
    · cases hn
  · cases hn
theorem ae_sortS (c : Bool) (hg : Gl X "sorted") (hm : X.mg "sorted" = none) (ha : AA p X W [e] ma) (he : starEach [e] X.env = (false, eval e X.env) :: starEach [] X.env := by rfl) : AE p X W (.Call (.Name "sorted" pp) [e] [] pos) (eCB c gSortS ma) :=
  ae_callB c cr_sortedS (caN_sortS ha.1) hg hm (by decide +kernel) ha (hn := by decide) (hd := by decide) (he := he) (hpl := rfl)
/-- sorted(list of ints) -/
def gSortI : List D → Sto → Option NV
  | [d], μ => match asL μ d with
    | some ds => (asInts ds).map fun ns => .l ((ns.mergeSort fun a b => decide (a ≤ b)).map .int)
    | none => none
  | _, _ => none
theorem sortI_eq {ys ns : List Int} (hp : ys.Perm ns) (hs : ys.Pairwise (· ≤ ·)) : ys = ns.mergeSort fun a b => decide (a ≤ b) := by
  have w2 : (ns.mergeSort fun a b => decide (a ≤ b)).Pairwise fun a b => decide (a ≤ b) = true := List.pairwise_mergeSort (fun a b c h k => by simp only [decide_eq_true_eq] at *; omega) (fun a b => by simp only [Bool.or_eq_true, decide_eq_true_eq]; omega) ns
  refine List.Perm.eq_of_pairwise (le := fun a b => a ≤ b) (fun a b _ _ h k => Int.le_antisymm h k) hs (w2.imp fun h => by simpa using h) (hp.trans (List.mergeSort_perm ns _).symm)
theorem rdInts {st : Wd} {H : Hp} : ∀ (ns : List Int), RDs p st H (ns.map .int) (ns.map V.int)
  | [] => RDs.nil
  | n :: ns => RDs.cons (by simp [RD]) (rdInts ns)
theorem caN_sortI (hK : X.K = p.K) : CaN p (rSortedI X.K) gSortI := by
  intro c st μ μ' H xs z vs Q S rx hf k
  simp only [Option.map_eq_some_iff] at hf
  obtain ⟨n, hn, hf⟩ := hf
  unfold gSortI at hn
  split at hn
  · split at hn
    · rename_i ds hd
      simp only [Option.map_eq_some_iff] at hn
      obtain ⟨ns, hns, e⟩ := hn
      subst e
      obtain ⟨v, e1, h1⟩ := rd1 rx
      obtain ⟨a, ws, e2, h2, h3⟩ := asL_ok S h1 hd
      subst e2
      rw [asInts_ok h3 hns] at h2
      refine ⟨a, ns, e1, SqL.of h2, fun ys q hp hs hq => ?_⟩
      rw [sortI_eq hp hs]
      refine fin_l (c := c) S (rdInts _) hq ?_
      rw [hf]
      exact k
    · cases hn
  · cases hn
theorem ae_sortI (c : Bool) (hg : Gl X "sorted") (hm : X.mg "sorted" = none) (ha : AA p X W [e] ma) (he : starEach [e] X.env = (false, eval e X.env) :: starEach [] X.env := by rfl) : AE p X W (.Call (.Name "sorted" pp) [e] [] pos) (eCB c gSortI ma) :=
  ae_callB c cr_sortedI (caN_sortI ha.1) hg hm (by decide +kernel) ha (hn := by decide) (hd := by decide) (he := he) (hpl := rfl)
/-- list(text) -/
def rListS : List V → Hp → VK → Prop := fun xs H Q => ∃ l : List Nat, xs = [.str (mkS l)] ∧ l.length ≤ sizeLine ∧ ∀ q, H q = none → Q (.ref q) (upd H q (.lst ((l.map fun c => mkS [c]).map V.str)))
theorem signs_vals {l : List Nat} {acc : Array Value} (h : ItemsOf (SignAt (mkS l)) acc l.length) : Vals ((l.map fun c => mkS [c]).map V.str) acc.toList := by
  have key : ∀ (l : List Nat) (us : List Value), us.length = l.length → (∀ (j : Nat) (v : Value), us[j]? = some v → ∃ c u, l[j]? = some c ∧ v = .str (mkS [c]) u) → Vals ((l.map fun c => mkS [c]).map V.str) us := by
    intro l
    induction l with
    | nil => intro us hl _; cases us with | nil => exact .nil | cons _ _ => simp at hl
    | cons c l ih =>
      intro us hl hv
      cases us with
      | nil => simp at hl
      | cons u us =>
        obtain ⟨c', t, h1, h2⟩ := hv 0 u rfl
        simp at h1
        subst h1
        refine .cons ⟨t, h2⟩ (ih us (by simpa using hl) fun j v hj => ?_)
        obtain ⟨c', t', h1, h2⟩ := hv (j + 1) v (by simpa using hj)
        exact ⟨c', t', by simpa using h1, h2⟩
  refine key l acc.toList (by rw [Array.length_toList]; exact h.1) fun j v hj => ?_
  have hj' : acc[j]? = some v := by rw [← Array.getElem?_toList]; exact hj
  obtain ⟨c, u, h1, h2⟩ := h.2 j v hj'
  exact ⟨c, u, by simpa [mkS] using h1, h2⟩
theorem cr_listS (hc : X.calm = true) : CallR X (.type "list") rListS := by
  intro pins s σ H xs us Q I r h
  obtain ⟨l, rfl, hl, q⟩ := h
  obtain ⟨u, rfl, t, rfl⟩ := vals1 r
  have hs : (mkS l).cps.size = l.length := by simp [mkS]
  refine call_list_str (I.ok.hd hc) (mkS l) t (fun h' tk acc c' kp e ha => ?_) (by rw [hs]; exact hl)
  rw [hs] at ha
  exact ⟨.ref s.heap.objs.size, _, I.laid (t' := tk) kp (Nat.le_refl _) (show ObjOk X.prog X.w _ h' _ (.lst ((l.map fun c => mkS [c]).map V.str)) from ⟨by simpa using hl, acc.toList, c', signs_vals ha, e⟩), rfl, q _ (I.hok.fresh (Nat.le_refl _))⟩
def gListS : List D → Sto → Option NV
  | [.str l], _ => some (.l ((l.map fun c => [c]).map .str))
  | _, _ => none
theorem caN_listS : CaN p rListS gListS := by
  intro c st μ μ' H xs z vs Q S rx hf k
  simp only [Option.map_eq_some_iff] at hf
  obtain ⟨n, hn, hf⟩ := hf
  unfold gListS at hn
  split at hn
  · rename_i l
    cases hn
    obtain ⟨v, e1, h1⟩ := rd1 rx
    simp only [RD] at h1
    refine ⟨l, by rw [e1, h1.1], h1.2, fun q hq => ?_⟩
    have r := rdStrs (p := p) (st := st) (H := H) (l.map fun c => [c]) (fun l' h => by
      obtain ⟨c, _, e⟩ := List.mem_map.mp h
      subst e; simp)
    rw [List.map_map (f := fun c => [c]) (g := mkS)] at r
    refine fin_l (c := c) S r hq ?_
    rw [hf]
    exact k
  · cases hn
theorem ae_listS (c : Bool) (hc : X.calm = true) (hg : Gl X "list") (hm : X.mg "list" = none) (ha : AA p X W [e] ma) (he : starEach [e] X.env = (false, eval e X.env) :: starEach [] X.env := by rfl) : AE p X W (.Call (.Name "list" pp) [e] [] pos) (eCB c gListS ma) :=
  ae_callTy c (cr_listS hc) caN_listS hg hm (by decide +kernel) ha (hn := by decide) (hd := by decide) (he := he) (hpl := rfl)
end
end Ab

set_option maxRecDepth 100000
set_option maxHeartbeats 1000000
namespace Ab
open PySem L2 PyProof.Rows PySem.Spec
section
variable {p : Par} {X : Cx} {W : WX} {pos pp apos : Pos} {e o a b : Expr} {es : List Expr} {x m : Str} {me mo va vb : M D} {ma : M (List D)} {k : Nat} {f : Addr} {g : Fn}
/-! ### names of the module -/
theorem ae_glob {v : V} {u : Value} {d : D} (hK : X.K = p.K) (hg : Gl X x) (hm : X.mg x = some u) (r : RelV v u) (hd : ∀ st H, RD p st H d v) (h : (x == ("__debug__" : Str)) = false := by decide) : AE p X W (.Name x pos) (eC d) := ae_c hK (pe_glob hg hm r h) hd
theorem ae_globI {i : Int} {t : Tok} (hK : X.K = p.K) (hg : Gl X x) (hm : X.mg x = some (.int i t)) (h : (x == ("__debug__" : Str)) = false := by decide) : AE p X W (.Name x pos) (eC (.int i)) := ae_glob (v := .int i) hK hg hm ⟨t, rfl⟩ (fun _ _ => by simp only [RD]) h
theorem ae_globS {y : Str} {l : List Nat} {t : Tok} (hK : X.K = p.K) (hg : Gl X x) (hm : X.mg x = some (.str y t)) (hy : y = mkS l := by rfl) (hl : l.length ≤ 1000000 := by decide) (h : (x == ("__debug__" : Str)) = false := by decide) : AE p X W (.Name x pos) (eC (.str l)) :=
  ae_glob (v := .str y) hK hg hm ⟨t, rfl⟩ (fun _ _ => by simp only [RD]; exact ⟨by rw [hy], sz6 hl⟩) h
/-- a tuple of texts that stands written -/
theorem ae_globT {q : Addr} {ls : List (List Nat)} {ob : Obj} {its : Array Value} {n : Nat} (hK : X.K = p.K) (hg : Gl X x) (hm : X.mg x = some (.ref q)) (h1 : p.K.lookup q = some ob) (h2 : ob.cls = .type "tuple") (h3 : ob.data = .seq its n) (h4 : its.size ≤ 1000000) (h5 : Vals ((ls.map mkS).map V.str) its.toList) (hl : ∀ l ∈ ls, l.length ≤ 1000000)
    (h : (x == ("__debug__" : Str)) = false := by decide) : AE p X W (.Name x pos) (eC (.tup (ls.map .str))) :=
  ae_glob (v := .ref q) hK hg hm rfl (fun st H => by simp only [RD]; exact ⟨q, (ls.map mkS).map V.str, rfl, .inr ⟨ob, its, n, h1, h2, h3, sz6 h4, h5⟩, rdStrs ls hl⟩) h
/-! ### {c: v, ..}[e], texts that are written -/
def dctKV (l : List (List Nat × List Nat)) : List (Key × V) := l.map fun q => (.inr (mkS q.1), .str (mkS q.2))
def eDct (l : List (List Nat × List Nat)) (i : M D) : M D := bnd i fun y => match y with
  | .str c => match l.lookup c with | some v => if v.length ≤ 1000000 then ret (.str v) else fun _ _ => none | none => fun _ _ => none
  | _ => fun _ _ => none
theorem upd_upd' {H : Hp} {q : Addr} {u v : HO} : upd (upd H q u) q v = upd H q v := by
  funext b
  by_cases h : b = q
  · subst h; rw [upd_same, upd_same]
  · rw [upd_ne h, upd_ne h, upd_ne h]
theorem ae_dct {l : List (List Nat × List Nat)} {keys : List (Option Expr)} {values : List Expr} {i : Expr} {mi : M D} {trs : List (TE × TE)} (hu : X.A.units + 1 < cLine) (h : PPs X pp keys values trs)
    (ht : ∀ σ H Q, Q ((dctKV l).map fun kv => (kV kv.1, kv.2)) H → tPairs trs σ H Q) (hl : l.length ≤ 15) (hv : ∀ c v, l.lookup c = some v → valV (mergeK [] (dctKV l)) (.inr (mkS c)) = some (.str (mkS v))) (hi : AE p X W i mi) (hs : NoSl i)
    (hall : keys.all (·.isSome) = true) (hlen : keys.length = values.length) (h0 : keys ≠ []) (h15 : keys.length ≤ 15) : AE p X W (.Subscript (.Dict keys values pp) i pos) (eDct l mi) := by
  refine ⟨hi.1, PE.imp (pe_dget hu (pe_disp h hall hlen h0 h15) hi.2 hs) fun σ H Q ⟨Γ, μ, st, S, L, P⟩ => ?_⟩
  intro q hq
  refine ht σ _ _ ⟨upd_same, dctKV l, rfl, by simpa [dctKV] using hl, ?_⟩
  rw [upd_upd']
  have E : Ext p st H st (upd H q (.dK (mergeK [] (dctKV l)))) := Ext.new S hq
  have S1 : Sim p st μ (upd H q (.dK (mergeK [] (dctKV l)))) := S.new hq
  have nq := S.notin hq
  have nF : ¬ st.F q := fun hF => by
    obtain ⟨⟨x, hx⟩, _⟩ := S.fz q hF
    rw [hq] at hx; cases hx
  refine tG_bndE (rel := RD p) S1 (L.mono E) (P.ext E) fun d v μ1 st1 H1 e1 S1' L1 r1 P1 => ?_
  have hk : H1 q = some (.dK (mergeK [] (dctKV l))) := by
    rw [e1.kp q nq (by rw [upd_same]; simp), upd_same]
  cases d with
  | str c =>
    dsimp only at P1
    cases hlk : l.lookup c with
    | none => rw [hlk] at P1; exact P1.elim
    | some w =>
      rw [hlk] at P1
      dsimp only at P1
      split at P1
      · rename_i hw
        simp only [RD] at r1
        exact ⟨q, .str (mkS w), rfl, .inl ⟨_, .inr (mkS c), Rd.of hk, r1.1, (hv c w hlk).symm⟩, Post.ret P1 S1' (by simp only [RD]; exact ⟨trivial, sz6 hw⟩)⟩
      · exact P1.elim
  | _ => exact P1.elim
/-! ### o.m(*e) -/
def asT : D → M (List D)
  | .tup ds => ret ds
  | _ => fun _ _ => none
def eMethS (c : Nat) (g : Fn) (o : M D) (a : M D) : M D := bnd o fun x => bnd (isIns c x) fun _ => bnd a fun y => bnd (asT y) fun ds _ μ => g (x :: ds) μ
theorem ae_methS {c : Nat} {sp_ : Pos} (tk : Takes X W) (T : MthOk p c m f) (B : BMeth p.K (p.ca c) m f) (F : FnA X.prog X.w p X.mg X.base k f g) (hr : Room k X.A) (ho : AE p X W o mo) (ha : AE p X W e me) (hbase : attributeBase o m X.env (eval o X.env) = eval o X.env := by rfl) :
    AE p X W (.Call (.Attribute o m apos) [.Starred e sp_] [] pos) (eMethS c g mo me) := by
  refine ⟨ha.1, ⟨fun pins s σ H Q I ⟨Γ, μ, st, S, L, P⟩ => ?_⟩⟩
  have F' : FnR X.prog X.w X.K X.mg X.base (L2.CX X.prog X.w) k f (spA p g) := by rw [ha.1]; exact F
  have cl : Cls X.K (p.ca c) := by rw [ha.1]; exact T.cl
  have B' : BMeth X.K (p.ca c) m f := by rw [ha.1]; exact B
  have h0 : tA p W mo σ H fun v H1 => ∃ a dx fs, v = .ref a ∧ H1 a = some (.ins (p.ca c) dx fs) ∧ fs.lookup m = none ∧ ∀ q, H1 q = none → tA p W me σ (upd H1 q (.met f a)) fun y H2 => ∃ b vs, y = .ref b ∧ SqT X.K H2 b vs ∧ H2 q = some (.met f a) ∧ spA p g (v :: vs) H2 Q (WE W σ) := by
    refine tG_bndE (rel := RD p) S L P fun d v μ1 st1 H1 e1 S1 L1 r1 P1 => ?_
    obtain ⟨⟨a, dx, vs, e2, h2⟩, P2⟩ := isIns_ok S1 r1 P1
    refine ⟨a, dx, _, e2, h2, zip_none T.no, fun q hq => ?_⟩
    have E : Ext p st1 H1 st1 (upd H1 q (.met f a)) := Ext.new S1 hq
    have nq := S1.notin hq
    refine tG_bndE (rel := RD p) (S1.new hq) (L1.mono E) (P2.ext E) fun y w μ2 st2 H2 e3 S2 L2 r2 P3 => ?_
    cases y with
    | tup ds =>
      have r2' := r2
      simp only [RD] at r2
      obtain ⟨b, ws, e4, h4, h5⟩ := r2
      refine ⟨b, ws, e4, by rw [ha.1]; exact h4, ?_, call_post (Γ := Γ) S2 (RDs.cons ((r1.mono E).mono e3) h5) P3⟩
      rw [e3.kp q nq (by rw [upd_same]; simp), upd_same]
    | _ => exact P3.elim
  refine starcall_of hbase (thn (ho.2.run pins s σ H _ I h0) fun u s1 ⟨v, H1, I1, rv, a, dx, fs, ev, ea, l, q⟩ => ?_)
  subst ev
  obtain rfl : u = Value.ref a := rv
  refine getbound_ok I1 ea cl B' l fun q1 s2 hq1 I2 => ?_
  refine PySem.W.ks_call (P := PySem.W.MethP X.K q1 f (.ref a)) rfl (PySem.W.keeps_M B'.fi) (PySem.W.ks_lone ?_)
  refine thn (ha.2.run pins s2 σ _ _ I2 (q q1 hq1)) fun v s3 ⟨y, H2, I3, ry, t, vs, ey, ht, hm, hsp⟩ => ?_
  subst ey
  obtain rfl : v = Value.ref t := ry
  refine star_tup I3 ht fun us s4 I4 rv => ⟨met_P I4 hm, ?_⟩
  exact wpAny_call (PySem.W.method_call (met_P I4 hm).1 (run_a (us := Value.ref a :: us) (vs := V.ref a :: vs) F' hr (passAt tk σ) I4 (.cons rfl rv) hsp))
/-! ### o.f as a target -/
def gFldT (tb : List (Nat × Nat)) (o : M D) : GM := fun z => bS o fun x Γ μ => (setF tb x z μ).map fun μ' => .nx Γ μ'
theorem ag_fld {fn : Str} {tb : List (Nat × Nat)} (T : ∀ c i, tb.lookup c = some i → FldOk p c fn i) (ho : AE p X W0 o mo)
    (ha : ∀ v, assign (.Attribute o fn pos) X.env v = (do let ov ← holding [v] (eval o X.env); standAt pos.atName; holding [v, ov] (setAttr ov fn v); release [v, ov] []) := by intro _; rfl) : AG p X W0 (.Attribute o fn pos) (gFldT tb mo) := by
  refine ⟨ho.1, ⟨fun pins s σ H v u Q I r ⟨Γ, μ, st, d, S, L, rd, P⟩ => ?_⟩⟩
  have h0 : tA p W0 mo σ H fun x H1 => ∃ a C dx fs, x = .ref a ∧ H1 a = some (.ins C dx fs) ∧ Cls X.K C ∧ NoAttr X.K C fn ∧ fs.length < 1000 ∧ Q σ (upd H1 a (.ins C dx (putF fn v fs))) := by
    refine tG_bS (W := W0) (E := { nx := Q, rt := fun _ _ => False }) (rel := RD p) S L P fun x vx μ1 st1 H1 e1 S1 L1 r1 P1 => ?_
    cases hs : setF tb x d μ1 with
    | none => rw [hs] at P1; exact P1.elim
    | some μ2 =>
      rw [hs] at P1
      obtain ⟨a, C, dx, fs, e3, h1, h2, h3, h4, h5, h6⟩ := setF_ok T S1 r1 (rd.mono e1) hs
      rw [ho.1]
      exact ⟨a, C, dx, fs, e3, h1, h2, h3, h4, P1 st1 σ _ h5 h6 (L1.mono h5)⟩
  rw [ha]
  refine wpAny_bind (wpAny_holding (thn (ho.2.run pins s σ H _ I h0) fun ov s1 ⟨x, H1, I1, r1, a, C, dx, fs, e1, h1, h2, h3, h4, q1⟩ => ?_))
  subst e1
  obtain rfl : ov = Value.ref a := r1
  refine wpAny_bind (wpAny_standAt (wpAny_bind (wpAny_holding (setattr_ok I1 h1 h2 h3 h4 r fun s' I' => ?_))))
  exact wpAny_release ⟨σ, _, I', q1⟩
theorem on_fld {tb : List (Nat × Nat)} {mo : M D} (h : ∀ Γ μ c ds μ', mo Γ μ ≠ some (.exc c ds μ')) : OnlyNx (gFldT tb mo) := fun d Γ μ => by
  unfold gFldT bS
  cases hm : mo Γ μ with
  | none => trivial
  | some q =>
    cases q with
    | ok x μ' =>
      dsimp only
      cases setF tb x d μ' with
      | none => trivial
      | some _ => trivial
    | exc c ds μ' => exact absurd hm (h Γ μ c ds μ')
/-! ### a, b, c = e1, e2, e3 -/
def sPar3 (i j l : Nat) (m : M (List D)) : SM := bS m fun ds Γ μ => match ds with
  | [a, b, c] => some (.nx (((Γ.set i (some a)).set j (some b)).set l (some c)) μ)
  | _ => none
theorem as_par3 {i j l : Nat} {x y z : Str} {a b c : Expr} {px py pz pt : Pos} {kt k2 pt2} (hc : X.calm = true) (hN : X.N.Nodup) (hi : X.N[i]? = some x) (hj : X.N[j]? = some y) (hl : X.N[l]? = some z) (hij : i ≠ j) (hil : i ≠ l) (hjl : j ≠ l)
    (hx : X.env.scope.names.lookup x = some .local) (hy : X.env.scope.names.lookup y = some .local) (hz : X.env.scope.names.lookup z = some .local) (ha : AA p X W [a, b, c] ma)
    (hw : swappedStores [.Tuple [.Name x px, .Name y py, .Name z pz] kt pt] (.Tuple [a, b, c] k2 pt2) X.env = pure (some [x, y, z]))
    (hs : swapsWithSole [.Tuple [.Name x px, .Name y py, .Name z pz] kt pt] (.Tuple [a, b, c] k2 pt2) pos.line X.env = pure false := by rfl) :
    AS p X W (.Assign [.Tuple [.Name x px, .Name y py, .Name z pz] kt pt] (.Tuple [a, b, c] k2 pt2) pos) (sPar3 i j l ma) := by
  refine ⟨ha.1, PS.imp (ps_par3 hc hN hi hj hl hij hil hjl hx hy hz ha.2 hw hs) fun E σ H ⟨Γ, μ, st, S, L, P⟩ => tG_bS (rel := RDs p) S L P fun ds vs μ' st' H' e' S' L' r' P' => ?_⟩
  cases ds with
  | nil => exact P'.elim
  | cons d1 ds =>
    cases ds with
    | nil => exact P'.elim
    | cons d2 ds =>
      cases ds with
      | nil => exact P'.elim
      | cons d3 ds =>
        cases ds with
        | cons _ _ => exact P'.elim
        | nil =>
          obtain ⟨v, r1, e1, h1, h2⟩ := r'.of_cons
          obtain ⟨w, u, e2, h3, h4⟩ := rd2 h2
          subst e2
          exact ⟨v, w, u, e1, P' st' _ H' Ext.refl S' (((L'.set h1).set h3).set h4)⟩
end
/-! ### def f(self, *v) -/
section
variable {P : Program} {w : World} {p : Par} {mg : Str → Option Value} {base : Heap}
/-- the values behind the first n, as one tuple -/
def starFn (n : Nat) (g : Fn) : Fn := fun ds μ => if n ≤ ds.length ∧ ds.length ≤ 1000000 then g (ds.take n ++ [.tup (ds.drop n)]) μ else none
theorem fn_starA {k : Nat} {f : Addr} {name qual : Str} {params : Arguments} {bd : List Stmt} {scope : Scope} {dV kV doc pm cdv ct oc : Value} {an od : Option Addr} {osl : Array (Option Value)} {N ps : List Str} {pv : Str} {m : SM}
    (lk : p.K.lookup f = some ⟨oc, od, .func (PySem.W.fnOf name qual params bd scope dV kV doc pm an cdv ct), osl⟩) (hcd : PySem.W.codeIn p.K cdv qual = true) (S : FnScope N (ps ++ [pv]) scope)
    (hb : ∀ us rest : List Value, us.length = ps.length → bindArgs (PySem.W.fnOf name qual params bd scope dV kV doc pm an cdv ct) ⟨us ++ rest, []⟩ = (newTuple rest >>= fun t => pure (ps.zip us ++ [(pv, t)])))
    (hbody : ∀ (A : Around) (outer : List Env) (s : Shared) (H : Hp) (E : XK), Room k (A.deeper (envOfC qual scope s.heap.objs.size f cdv)) → Takes (cxOf (L2.CX P w) P w p.K mg base N qual scope f cdv A outer s H E) (WofE E) →
      PassesOwn (model P w) (cxOf (L2.CX P w) P w p.K mg base N qual scope f cdv A outer s H E).A (cxOf (L2.CX P w) P w p.K mg base N qual scope f cdv A outer s H E).env (cxOf (L2.CX P w) P w p.K mg base N qual scope f cdv A outer s H E).xe →
      ASs p (cxOf (L2.CX P w) P w p.K mg base N qual scope f cdv A outer s H E) (WofE E) bd m) : FnA P w p mg base (k + 1) f (starFn ps.length (body N.length (ps.length + 1) m)) := by
  have G := StX.fn_star (P := P) (w := w) (mg := mg) (base := base) (CX := L2.CX P w) (k := k) (sp := spA p (body N.length (ps.length + 1) m)) lk hcd S StX.cxUp hb fun A outer s H vs Q E hr h =>
    ⟨_, (hbody A outer s H E hr (takes_of rfl rfl rfl rfl) (passes_of rfl)).2, (body_ok h).2⟩
  refine G.imp fun vs H Q E h => ?_
  obtain ⟨ds, μ, st, S, r, q⟩ := h
  unfold starFn at q
  split at q
  · rename_i hl
    refine ⟨vs.take ps.length, vs.drop ps.length, (List.take_append_drop _ _).symm, by rw [List.length_take, ← r.length]; omega, by rw [List.length_drop, ← r.length]; have := sz6 hl.2; omega, fun q1 hq => ?_⟩
    obtain ⟨a1, a2, a3⟩ := new_tup S hq (r.drop ps.length)
    refine ⟨ds.take ps.length ++ [.tup (ds.drop ps.length)], μ, st, a2, ((r.take ps.length).mono a1).append (RDs.one a3), q.ext a1⟩
  · exact q.elim
end
end Ab

set_option maxRecDepth 100000
set_option maxHeartbeats 3200000
/-! set(text), sorted(set(text)) -/
namespace Ab
open PySem L2 PyProof.Rows PySem.Spec
def txOf (e : Int × Value) : Str := match e.2 with | .str k _ => k | _ => Str.empty
def EnS (w : World) (e : Int × Value) : Prop := ∃ k tk, e.2 = Value.str k tk ∧ e.1 = hashStr w k
/-- a set of texts: l its members -/
def TxS (w : World) (h : Heap) (a : Addr) (l : List Str) : Prop :=
  ∃ o es ep t, h.get? a = some o ∧ o.ExactSet ∧ o.data = .set es ep t ∧ (∀ e ∈ es.toList, EnS w e) ∧ (es.toList.map txOf).Perm l ∧ l.Nodup ∧ es.size < scanBound ∧ t.fits es.size = true ∧ Ris t.place.toList ∧ (w.params.followText "set-order" = true ∨ t.led = true)
section
variable {P : Program} {w : World} {A : Around} {E : Value → Shared → Prop} {s : Shared} {h h' : Heap} {a : Addr} {l : List Str}
theorem TxS.at (R : TxS w h a l) (k : ∀ o, h.get? a = some o → h'.get? a = some o) : TxS w h' a l := by
  obtain ⟨o, es, ep, t, ho, r⟩ := R
  exact ⟨o, es, ep, t, k o ho, r⟩
theorem enS_elems {l : List (Int × Value)} (g : ∀ e ∈ l, EnS w e) : ElemsOf (strKind P w) l := fun e he => by
  obtain ⟨k, tk, h1, h2⟩ := g e he
  exact ⟨⟨k, by rw [h1]; exact strKind_is P w k tk, h2⟩, by rw [h1]; rfl⟩
theorem enS_mem {l : List (Int × Value)} (g : ∀ e ∈ l, EnS w e) (k : Str) : k ∈ l.map txOf ↔ ∃ e ∈ l, (strKind P w).is k e.2 = true := by
  have key : ∀ e ∈ l, ((strKind P w).is k e.2 = true ↔ txOf e = k) := fun e he => by
    obtain ⟨k', tk, h1, h2⟩ := g e he
    unfold txOf
    rw [h1]
    show Value.isStrOf k (.str k' tk) = true ↔ k' = k
    simp [Value.isStrOf]
  constructor
  · intro hk
    obtain ⟨e, he, q⟩ := List.mem_map.mp hk
    exact ⟨e, he, (key e he).mpr q⟩
  · rintro ⟨e, he, q⟩
    exact List.mem_map.mpr ⟨e, he, (key e he).mp q⟩
theorem tail_t {g : Bool → Sem Unit} (hg : ∀ (b : Bool) (s₁ : Shared) (Q' : Unit → Shared → Prop), Q' () s₁ → wpAny (model P w) A (g b) Q' E s₁)
    {o : Obj} {es es1 : Array (Int × Value)} {ep : Nat} {t t2 : SetTable} (ho : s.heap.get? a = some o) (hex : o.ExactSet) (hd : o.data = .set es ep t) {l1 : List Str}
    (g1 : ∀ e ∈ es1.toList, EnS w e) (p1 : (es1.toList.map txOf).Perm l1) (n1 : l1.Nodup) (b1 : es1.size < scanBound) (f2 : t2.fits es1.size = true) (r2 : Ris t2.place.toList) (d2 : w.params.followText "set-order" = true ∨ t2.led = true) {was : Bool} {R : Option Bool → Shared → Prop}
    (hR : ∀ h', Heap.SameBut a s.heap h' → TxS w h' a l1 → R (some true) { s with heap := h' }) :
    wpAny (model P w) A (do
        storeSet a es1 t2
        if (!was && t2.tooFull) = true then do
            g (relayAll t2 es1 (SetTable.grown es1.size)).2.2
            storeSet a (relayAll t2 es1 (SetTable.grown es1.size)).1 (relayAll t2 es1 (SetTable.grown es1.size)).2.1
            pure (some true)
          else pure (some true)) R E s := by
  have o1 := store_at (es' := es1) (t' := t2) ho hd
  have k1 := Heap.SameBut.update s.heap a (Obj.putSet es1 t2)
  refine wpAny_bind (wpAny_storeSet_of ho hd ?_ (fits_of_scanBound b1))
  by_cases hc : (!was && t2.tooFull) = true
  · rw [if_pos hc]
    obtain ⟨⟨es2, t3, gave⟩, eZ⟩ : ∃ z, relayAll t2 es1 (SetTable.grown es1.size) = z := ⟨_, rfl⟩
    have q1 := relayAll_perm t2 es1 (SetTable.grown es1.size)
    have q2 := relayAll_fits t2 es1 (SetTable.grown es1.size)
    have q3 := relayAll_ris t2 es1 (SetTable.grown es1.size)
    have q4 := relayAll_led t2 es1 (SetTable.grown es1.size)
    rw [eZ] at q1 q2 q3 q4 ⊢
    dsimp only at q1 q2 q3 q4 ⊢
    have z2 : es2.size = es1.size := by simpa using q1.length_eq
    have b2 : es2.size < scanBound := z2 ▸ b1
    refine wpAny_bind (hg _ _ _ (wpAny_bind (wpAny_storeSet_of o1 rfl ?_ (fits_of_scanBound b2))))
    have o2 := store_at (es' := es2) (t' := t3) o1 rfl
    exact wpAny_pure (hR _ (k1.trans (Heap.SameBut.update _ a _)) ⟨_, es2, _, t3, o2, hex, rfl, fun e he => g1 e (q1.mem_iff.mp he), (q1.map txOf).trans p1, n1, b2, q2, q3, d2.imp id fun z => by rw [q4]; exact z⟩)
  · rw [if_neg hc]
    exact wpAny_pure (hR _ k1 ⟨_, es1, _, t2, o1, hex, rfl, g1, p1, n1, b1, f2, r2, d2⟩)
theorem add_t {k : Str} {tk : Tok} {Q : Bool → Shared → Prop} (R : TxS w s.heap a l) (room : l.length + 1 < scanBound)
    (hQ : ∀ h' b, Heap.SameBut a s.heap h' → TxS w h' a (if k ∈ l then l else l ++ [k]) → Q b { s with heap := h' }) :
    wpAny (model P w) A (setAddHashed a (.str k tk) ((strKind P w).hash k)) Q E s := by
  obtain ⟨o, es, ep, t, ho, hex, hd, g, pm0, nd, hb, hf, hr, hl⟩ := R
  have hkey : (strKind P w).is k (.str k tk) = true := strKind_is P w k tk
  have hel : ElemsOf (strKind P w) es.toList := enS_elems g
  have hml : k ∈ l ↔ k ∈ es.toList.map txOf := pm0.mem_iff.symm
  unfold setAddHashed setAddHashedIn
  refine wpAny_holding (wpAny_bind (wpAny_setState_of ho hd hf ?_))
  dsimp only
  rw [byScan_of rfl hb hel]
  simp only [↓reduceIte]
  unfold setAddByScan
  refine wpAny_bind (wpAny_bind (wpAny_rule (wpAny_bind (wpAny_setScan_of hkey ho hd hf hel ?_))))
  cases hfi : List.findIdx? (fun e => (strKind P w).is k e.2) es.toList with
  | some j =>
    dsimp only
    obtain ⟨hj, pj, _⟩ := List.findIdx?_eq_some_iff_getElem.mp hfi
    have hk : k ∈ l := hml.mpr ((enS_mem (P := P) g k).2 ⟨es.toList[j], List.getElem_mem hj, pj⟩)
    exact wpAny_pure (wpAny_pure (hQ s.heap _ (Heap.SameBut.refl a s.heap) (by rw [if_pos hk]; exact ⟨o, es, ep, t, ho, hex, hd, g, pm0, nd, hb, hf, hr, hl⟩)))
  | none =>
    dsimp only
    have hk : k ∉ l := fun z => by
      obtain ⟨e, he, q⟩ := (enS_mem (P := P) g k).1 (hml.mp z)
      have c := List.findIdx?_eq_none_iff.mp hfi e he
      rw [q] at c
      cases c
    have gv : ∀ (b : Bool) {s₁ : Shared} {Q' : Unit → Shared → Prop}, Q' () s₁ → wpAny (model P w) A (match b with | true => rule "set.scan.the-table-gave-way" | false => pure ()) Q' E s₁ := fun b s₁ Q' q => by
      cases b
      · exact wpAny_pure q
      · exact wpAny_rule q
    obtain ⟨⟨es1, t1, was, gave⟩, eZ⟩ : ∃ z, layNew t es ((strKind P w).hash k) (.str k tk) = z := ⟨_, rfl⟩
    have q1 := layNew_perm t es ((strKind P w).hash k) (.str k tk)
    have q2 := layNew_fits t es ((strKind P w).hash k) (.str k tk)
    have q3 := layNew_ris t es ((strKind P w).hash k) (.str k tk) hr
    have q4 := layNew_led t es ((strKind P w).hash k) (.str k tk)
    rw [eZ] at q1 q2 q3 q4 ⊢
    dsimp only at q1 q2 q3 q4 ⊢
    rw [Array.toList_push] at q1
    have g1 : ∀ e ∈ es1.toList, EnS w e := fun e he => by
      rcases List.mem_append.mp (q1.mem_iff.mp he) with z | z
      · exact g e z
      · rw [List.mem_singleton] at z; rw [z]; exact ⟨k, tk, rfl, rfl⟩
    have p1 : (es1.toList.map txOf).Perm (l ++ [k]) := by
      have z := q1.map txOf
      rw [List.map_append] at z
      exact z.trans (pm0.append_right _)
    have n1 : (l ++ [k]).Nodup := by
      rw [List.nodup_append]
      exact ⟨nd, by simp, fun x hx y hy => by simp at hy; subst hy; exact fun e => hk (e ▸ hx)⟩
    have z1 : es1.size < scanBound := by
      have z := p1.length_eq
      simp only [List.length_map, Array.length_toList, List.length_append, List.length_singleton] at z
      omega
    have d1 : w.params.followText "set-order" = true ∨ t1.led = true := hl.imp id fun z => by rw [q4]; exact z
    have fin : ∀ h', Heap.SameBut a s.heap h' → TxS w h' a (l ++ [k]) → ∀ b, Q b { s with heap := h' } := fun h' sb r b => hQ h' b sb (by rw [if_neg hk]; exact r)
    refine wpAny_bind (gv _ ?_)
    split
    · refine wpAny_bind ?_
      rw [hashByValue_scannable 8 (show (Value.str k tk).scannable = true from rfl)]
      refine wpAny_pure (tail_t ?_ ho hex hd g1 p1 n1 z1 ?_ ?_ ?_ ?_)
      · intro b s₁ Q' q; cases b <;> first | exact wpAny_pure q | exact wpAny_rule q
      · first | (split <;> first | exact q2 | exact SetTable.fits_plain_off q2) | exact q2
      · first | (split <;> exact q3) | exact q3
      · first | (split <;> exact d1) | exact d1
      · intro h' sb r; dsimp only; exact wpAny_pure (fin h' sb r _)
    · refine wpAny_bind (wpAny_pure ?_)
      simp only [↓reduceIte]
      refine tail_t ?_ ho hex hd g1 p1 n1 z1 q2 q3 d1 ?_
      · intro b s₁ Q' q; cases b <;> first | exact wpAny_pure q | exact wpAny_rule q
      · intro h' sb r; dsimp only; exact wpAny_pure (fin h' sb r _)
/-- the members behind some adds -/
def addAll (l : List Str) : List Str → List Str
  | [] => l
  | k :: r => addAll (if k ∈ l then l else l ++ [k]) r
theorem addAll_len : ∀ (ks l : List Str), (addAll l ks).length ≤ l.length + ks.length
  | [], l => by simp [addAll]
  | k :: r, l => by
    have h1 := addAll_len r (if k ∈ l then l else l ++ [k])
    have h2 : (if k ∈ l then l else l ++ [k]).length ≤ l.length + 1 := by split <;> simp
    simp only [addAll, List.length_cons]
    omega
theorem loop_t {I : Addr} {fp wr : List Addr} {G : Array GenState → Array GenState → Prop} {n : Nat} {Pv : Nat → Value → Prop} {St : Nat → Shared → Prop} {R : Result → Shared → Prop}
    (W : WalksS P w A.in1 I fp wr G n Pv St) (S : Addr) (hSf : S ∉ fp) (ks : List Str) (hn : n = ks.length) (hval : ∀ i v, Pv i v → ∃ k t, ks[i]? = some k ∧ v = .str k t) :
    ∀ (m i : Nat) (l : List Str) (s : Shared), n - i = m → i ≤ n → l.length + m + 1 < scanBound → St i s → TxS w s.heap S l →
      (∀ s', Moved (S :: wr) G s s' → TxS w s'.heap S (addAll l (ks.drop i)) → R (.ok (.ret .none)) s') →
      codeAny (model P w) A (.builtin "set.update.loop" ⟨[.ref S, .ref I], []⟩) R s := by
  have nw : S ∉ wr := fun h => hSf (W.sub _ h)
  have sub : ∀ b ∈ wr, b ∈ S :: wr := fun b hb => List.mem_cons_of_mem _ hb
  intro m
  induction m with
  | zero =>
    intro i l s hm hi hb hst hS hR
    refine codeAny_builtin F.entry_set_update_loop ?_
    rw [Around.under_plainId F.plain_set_update_loop _]
    show wpAny _ A.in1 (pyNext (.ref I) >>= _) _ _ s
    have e0 : i = n := by omega
    subst e0
    refine wpAny_bind (W.done s _ _ hst fun s' mv => ?_)
    show wpAny _ A.in1 (PySem.ret Value.none) _ _ s'
    have e : ks.drop i = [] := List.drop_eq_nil_of_le (by omega)
    rw [e] at hR
    exact wpAny_pure (hR s' (mv.mono sub) (hS.at fun o e => mv.heap S o nw e))
  | succ m ih =>
    intro i l s hm hi hb hst hS hR
    have hlt : i < n := by omega
    refine codeAny_builtin F.entry_set_update_loop ?_
    rw [Around.under_plainId F.plain_set_update_loop _]
    show wpAny _ A.in1 (pyNext (.ref I) >>= _) _ _ s
    refine wpAny_bind (W.item i s _ _ hlt hst fun v s' hP hst' mv => ?_)
    obtain ⟨z, t, hz, rfl⟩ := hval i v hP
    have hS' := hS.at (h' := s'.heap) fun o e => mv.heap S o nw e
    show wpAny _ A.in1 (holding [Value.str z t] (setAdd S (.str z t)) >>= _) _ _ s'
    refine wpAny_bind (wpAny_holding ?_)
    unfold setAdd
    refine wpAny_holding (wpAny_bind ((strKind P w).pyHash (k := z) (strKind_is _ _ _ _) ?_))
    refine add_t (s := { s' with toks := s'.toks + 1 }) hS' (by omega) fun h' bb hsb hS2 => ?_
    have ed : ks.drop i = z :: ks.drop (i + 1) := by
      obtain ⟨h1, h2⟩ := List.getElem?_eq_some_iff.mp hz
      rw [List.drop_eq_getElem_cons h1, h2]
    rw [ed] at hR
    have hl2 : (if z ∈ l then l else l ++ [z]).length ≤ l.length + 1 := by split <;> simp
    refine wpAny_pure ⟨plainId_quiet F.plain_set_update_loop _, ih (i + 1) _ _ (by omega) hlt (by omega) (W.frame _ s' _ _ hst' (Nat.le_succ _) fun b hb o e => ?_) hS2 fun s'' mv2 hS3 => ?_⟩
    · rw [hsb.2 b (fun h : b = S => hSf (h ▸ hb))]; exact e
    · refine hR s'' (Moved.trans W.gtrans ((mv.mono sub).then_heap (Nat.le_succ _) fun b o hb e => ?_) mv2) hS3
      rw [hsb.2 b (fun h : b = S => hb (h ▸ List.mem_cons_self))]; exact e
end
end Ab

set_option maxRecDepth 100000
set_option maxHeartbeats 3200000
namespace Ab
open PySem L2 PyProof.Rows PySem.Spec
section
variable {P : Program} {w : World} {A : Around} {E : Value → Shared → Prop} {s : Shared} {a : Addr} {l : List Str}
def newSet (w : World) : Obj := { cls := .type "set", dict := none, data := .set #[] 0 (.fresh 0 0 (!w.params.followText "set-order")) }
theorem txS_new {h : Heap} (ho : h.get? a = some (newSet w)) : TxS w h a [] :=
  ⟨_, #[], 0, _, ho, ⟨rfl, rfl, rfl⟩, rfl, (fun e he => by simp at he), (by simp), List.nodup_nil, (by decide), (by rfl), List.Pairwise.nil, by
    show _ ∨ (!w.params.followText "set-order") = true
    cases w.params.followText "set-order"
    · exact .inr rfl
    · exact .inl rfl⟩
/-- set(text) -/
theorem set_text {x : Str} {tx : Tok} {Q : Value → Shared → Prop} (hh : A.handled = none) (hb : x.cps.size + 1 < scanBound)
    (h : ∀ (h' : Heap) (tk : Nat), TxS w h' s.heap.objs.size (addAll [] (x.cps.toList.map fun c => mkS [c])) → (∀ b o, s.heap.get? b = some o → h'.get? b = some o) → Q (.ref s.heap.objs.size) { s with heap := h', toks := tk }) :
    wpAny (model P w) A (call (.type "set") [.str x tx]) Q E s := by
  obtain ⟨c, tl, hmro⟩ := F.called_set.mro
  have hmade := F.called_set.made
  have hsub := F.called_set.sub
  refine wpAny_call (codeAny_of_tree ?_)
  show wpAny _ _ (callAny (.type "set") _) _ _ _
  refine wpAny_pure ⟨Code.quiet_builtin _ (by decide +kernel), codeAny_builtin F.entry_type_call ?_⟩
  rw [Around.under_plain (weight_type_call_type "set" [.str x tx] []) rfl]
  have h1 := F.called_set.notType
  have h2 := F.called_set.canCreate
  have hct := F.typeCall_set_1 (.str x tx)
  repeat (any_goals (first | assumption | wp_step))
  refine codeAny_mono (code_set_led1 (.str x tx) (E := E) (Q₁ := fun obj s₁ => obj = .ref s.heap.objs.size ∧ s₁ = { s with heap := s.heap.push (newSet w) }) ⟨rfl, rfl⟩) fun r s₁ hr => ?_
  cases r with
  | error e => exact hr
  | ok fl =>
    cases fl with
    | ret obj =>
      obtain ⟨rfl, rfl⟩ := hr
      have hS : (s.heap.push (newSet w)).get? s.heap.objs.size = some (newSet w) := Heap.get?_push_size _ rfl
      have hT : Shared.TypeIs { s with heap := s.heap.push (newSet w) } (.ref s.heap.objs.size) "set" := ⟨_, hS, rfl⟩
      have hli := F.called_set.init.lookup
      have hbi := F.called_set.init.bind (.ref s.heap.objs.size)
      repeat (any_goals (first | assumption | wp_step))
      refine codeAny_mono (codeAny_call_builtin (R := wants (fun r s₂ => r = .none ∧ ∃ h' tk, s₂ = { s with heap := h', toks := tk } ∧ TxS w h' s.heap.objs.size (addAll [] (x.cps.toList.map fun c => mkS [c])) ∧
          (∀ b o, s.heap.get? b = some o → h'.get? b = some o)) E) F.called_set.init.plain F.entry_set_init (check_set_init_1 hT ?_)) fun r₂ s₂ hr₂ => ?_
      · have hs1 := F.sub_str_set
        have hs2 := F.sub_str_frozenset
        have hs3 : (Value.type "str" == Value.type "dict") = false := by decide
        unfold Builtin.«set.__init__» noKeywords Builtin.Frozenset.updateFrom
        generalize hPI : pyIter = PI
        wp_walk
        subst hPI
        refine wpAny_pyIter_str fun o St Wk hst => ?_
        refine wpAny_bind (wpAny_runValue ?_)
        have hh3 : A.in1.in1.in1.handled = none := by simp [hh]
        have hz1 : (s.heap.push (newSet w)).objs.size = s.heap.objs.size + 1 := Heap.size_push ..
        have hnf : s.heap.objs.size ∉ [(s.heap.push (newSet w)).objs.size] := by
          rw [hz1]; simp
        have hsz : x.cps.size = (x.cps.toList.map fun c => mkS [c]).length := by simp
        refine loop_t (Wk _ hh3).toS s.heap.objs.size hnf (x.cps.toList.map fun c => mkS [c]) hsz (fun i v hv => ?_) (x.cps.size - 0) 0 [] _ rfl (Nat.zero_le _) (by simpa using hb) hst (txS_new (Heap.get?_push_of_some _ hS)) ?_
        · obtain ⟨c, u, h1, h2⟩ := hv
          exact ⟨mkS [c], u, by simp [h1], h2⟩
        · intro s' hm hS'
          obtain ⟨h', g2, d', tk', os'⟩ := s'
          have eg : g2 = s.gens := hm.gens
          have ed : d' = s.drawn := hm.drawn
          have eo : os' = s.os := hm.os
          subst eg; subst ed; subst eo
          show wpAny _ _ _ _ _ _
          refine wpAny_pure ?_
          show wpAny _ _ (PySem.ret Value.none) _ _ _
          refine wpAny_pure ⟨rfl, h', tk', rfl, hS', fun b ob e => ?_⟩
          have hb0 : b < s.heap.objs.size := Heap.lt_size e
          refine hm.heap b ob (fun hmem => ?_) (Heap.get?_push_of_some _ (Heap.get?_push_of_some _ e))
          rcases List.mem_cons.mp hmem with q | q
          · rw [q] at hb0; exact absurd hb0 (Nat.lt_irrefl _)
          · rw [List.mem_singleton.mp q] at hb0
            have hz2 : (s.heap.push (newSet w)).objs.size = s.heap.objs.size + 1 := hz1
            first
              | (rw [hz2] at hb0; exact absurd hb0 (by simp))
              | exact absurd hb0 (by show ¬ (s.heap.push (newSet w)).objs.size < s.heap.objs.size; rw [hz2]; simp)
      · cases r₂ with
        | error e => exact hr₂
        | ok fl₂ =>
          cases fl₂ with
          | ret r =>
            obtain ⟨rfl, h', tk, rfl, hS', hk'⟩ := hr₂
            repeat (any_goals (first | assumption | wp_step))
            exact h _ _ hS' hk'
          | _ => exact hr₂.elim
    | _ => exact hr.elim
end
end Ab

set_option maxRecDepth 100000
set_option maxHeartbeats 3200000
namespace Ab
open PySem L2 PyProof.Rows PySem.Spec
section
variable {P : Program} {w : World} {A : Around} {E : Value → Shared → Prop} {s : Shared} {a : Addr} {l : List Str}
theorem strsAre_map : ∀ (us : List Value) (ks : List Str), us.length = ks.length → (∀ (i : Nat) v k, us[i]? = some v → ks[i]? = some k → ∃ t, v = Value.str k t) → StrsAre us ks
  | [], [], _, _ => .nil
  | [], _ :: _, h, _ => by simp at h
  | _ :: _, [], h, _ => by simp at h
  | u :: us, k :: ks, h, f => by
    obtain ⟨t, e⟩ := f 0 u k rfl rfl
    subst e
    exact .cons k t (strsAre_map us ks (by simpa using h) fun i v k' h1 h2 => f (i + 1) v k' (by simpa using h1) (by simpa using h2))
/-- sorted(a set of texts) -/
theorem sorted_t {Q : Value → Shared → Prop} (R : TxS w s.heap a l) (hh : A.handled = none)
    (hQ : ∀ s' q (out : Array Value) (c : Nat) (ys : List Str), (∀ b o, s.heap.get? b = some o → s'.heap.get? b = some o) → s'.gens = s.gens → s'.os = s.os → s.heap.objs.size ≤ q →
      s'.heap.get? q = some (seqObj "list" out c) → StrsAre out.toList ys → ys.Perm l → sortedS ys = true → Q (.ref q) s') :
    wpAny (model P w) A (call (.builtin "sorted") [.ref a]) Q E s := by
  obtain ⟨o, es, ep, t, ho, hex, hd, g, pm0, nd, hb, hf, hr, hl⟩ := R
  refine Calls.call_function_entry kind_sorted plain_sorted entry_sorted (args_sorted1 _) ?_
  unfold Builtin.«sorted»
  refine wpAny_bind (m := checkCount "sorted" 1 1 _) (wpAny_pure ?_)
  refine wpAny_bind (collect_set (A := A.in1) hh ⟨o, ho, hex.1, hd⟩ hf hb hr hl fun s1 vs k1 hz g1 o1 pm => ?_)
  have hvl : vs.length = es.size := by rw [pm.length_eq, List.length_map, Array.length_toList]
  have hst : ∀ v ∈ vs, ∃ k tk, v = Value.str k tk := fun v hv => by
    obtain ⟨e, he, q⟩ := List.mem_map.mp (pm.mem_iff.mp hv)
    obtain ⟨k, tk, h1, _⟩ := g e he
    exact ⟨k, tk, by rw [← q]; exact h1⟩
  let kv : Value → Str := fun v => match v with | .str k _ => k | _ => Str.empty
  have hI : StrsAre vs (vs.map kv) := strsAre_map vs (vs.map kv) (by simp) fun i v k h1 h2 => by
    obtain ⟨k', tk, e⟩ := hst v (List.mem_of_getElem? h1)
    subst e
    rw [List.getElem?_map, h1] at h2
    simp [kv] at h2
    subst h2
    exact ⟨tk, rfl⟩
  have pk : (vs.map kv).Perm (es.toList.map txOf) := by
    have q := pm.map kv
    rw [List.map_map] at q
    exact q
  have hsl : vs.length ≤ sizeLine := by
    rw [hvl]
    have h2 : scanBound ≤ sizeLine := by decide
    omega
  refine wpAny_bind (wpAny_newList ?_ hsl)
  have hoL : (s1.heap.push (seqObj "list" vs.toArray 0)).get? s1.heap.objs.size = some (seqObj "list" vs.toArray 0) := Heap.get?_push_size _ rfl
  refine wpAny_bind (wpAny_holding (wpAny_call_entry slot_list_sort ⟨_, hoL, rfl⟩ entry_list_sort (list_sort_treeKAny strKind_oneLt hoL hI.keysOf (fun v₁ v₂ rest e => keyKind_strs (by rw [← e]; exact hI)) hsl fun st' hp hs => ⟨_, rfl, ?_⟩) (args_list_sort _)))
  obtain ⟨ys, a1, a2, a3⟩ := sorted_out_str hI hp hs
  obtain ⟨c, hc⟩ := sortedHeap_at (vs := vs) (out := ((arrOf st').map (·.2))) hoL
  refine wpAny_pure ⟨_, rfl, hQ _ s1.heap.objs.size _ c ys (fun b u e => ?_) g1 o1 hz hc a1 (a2.trans (pk.trans pm0)) a3⟩
  have q := k1 b u e
  have hlt := Heap.lt_size q
  show (sortedHeap (s1.heap.push (seqObj "list" vs.toArray 0)) s1.heap.objs.size vs _).get? b = some u
  rw [sortedHeap_old (Nat.ne_of_lt hlt) (by rw [size_push']; exact Nat.lt_succ_of_lt hlt)]
  exact Heap.get?_push_of_some _ q
end
/-! ### sorted(set(text)) -/
section
variable {p : Par} {X : Cx} {W : WX} {pos pp p1 p2 : Pos} {e : Expr} {me : M D}
/-- the signs of a text, each once -/
def dedup (l : List Nat) : List Nat := l.foldl (fun acc c => if c ∈ acc then acc else acc ++ [c]) []
theorem addAll_dd : ∀ (l acc : List Nat), addAll (acc.map fun c => mkS [c]) (l.map fun c => mkS [c]) = (l.foldl (fun acc c => if c ∈ acc then acc else acc ++ [c]) acc).map fun c => mkS [c]
  | [], acc => rfl
  | c :: l, acc => by
    have hm : mkS [c] ∈ acc.map (fun c => mkS [c]) ↔ c ∈ acc := by
      constructor
      · intro h
        obtain ⟨d, hd, ed⟩ := List.mem_map.mp h
        have := mkS_inj.mp ed
        simp at this
        exact this ▸ hd
      · intro h
        exact List.mem_map.mpr ⟨c, h, rfl⟩
    simp only [List.map_cons, addAll, List.foldl_cons]
    by_cases hc : c ∈ acc
    · rw [if_pos hc, if_pos (hm.mpr hc)]; exact addAll_dd l acc
    · rw [if_neg hc, if_neg fun h => hc (hm.mp h)]
      have := addAll_dd l (acc ++ [c])
      simpa using this
def tSrt (p : Par) (W : WX) (m : M D) : TE := fun σ H Q => tA p W m σ H fun v H1 => ∃ l : List Nat, v = .str (mkS l) ∧ l.length < 1000 ∧ ∀ q, H1 q = none → Q (.ref q) (upd H1 q (.lst (((sortL ((dedup l).map fun c => [c])).map mkS).map V.str)))
theorem pe_srt (hc : X.calm = true) (hg : Gl X "sorted") (hm : X.mg "sorted" = none) (hg2 : Gl X "set") (hm2 : X.mg "set" = none) (he : AE p X W e me) (na : starEach [e] X.env = (false, eval e X.env) :: starEach [] X.env := by rfl) :
    PE X (.Call (.Name "sorted" pp) [.Call (.Name "set" p1) [e] [] p2] [] pos) (tSrt p W me) := by
  refine ⟨fun pins s σ H Q I h => ?_⟩
  refine Call_ (ld_blt (u := .builtin "sorted") I hg hm (by decide +kernel) ?_)
  refine PyProof.Rows.callWith_builtin1 (PyProof.Rows.args_cons ?_ rfl) rfl rfl
  refine Call_ (ld_blt I hg2 hm2 boot_set ?_)
  refine PyProof.Rows.callWith_type1 (PyProof.Rows.args_cons (thn (he.2.run pins s σ H _ I h) fun v s1 ⟨x, H1, I1, r1, q1⟩ => PyProof.Rows.args_nil ?_) na) na rfl
  obtain ⟨l, rfl, hl, q⟩ := q1
  obtain ⟨t, rfl⟩ := r1
  have hsz : (mkS l).cps.size = l.length := by simp [mkS]
  refine set_text (I1.ok.hd hc) (by rw [hsz]; have : 1001 < scanBound := by decide
                                    omega) fun h' tk hS hk => PyProof.Rows.args_nil ?_
  have I2 : Inv X pins σ H1 { s1 with heap := h', toks := tk } := I1.kept fun b o e => hk b o e
  refine sorted_t hS (I2.ok.hd hc) fun s' q1 out c ys k g o hp hg' hi pm hs => ?_
  have hn : H1 q1 = none := I2.hok.fresh hp
  have e0 : (mkS l).cps.toList.map (fun c => mkS [c]) = l.map fun c => mkS [c] := by simp [mkS]
  have e1 : addAll [] ((mkS l).cps.toList.map fun c => mkS [c]) = ((dedup l).map fun c => [c]).map mkS := by
    rw [e0, List.map_map]
    exact addAll_dd l []
  rw [e1] at pm
  have ey : ys = (sortL ((dedup l).map fun c => [c])).map mkS := sorted_eq pm hs
  have hlen : (ys.map V.str).length ≤ sizeLine := by
    have h2 := addAll_len ((mkS l).cps.toList.map fun c => mkS [c]) []
    rw [e1] at h2
    rw [List.length_map, pm.length_eq]
    simp only [List.length_map, Array.length_toList, hsz, List.length_nil] at h2 ⊢
    have h3 : 1000 ≤ sizeLine := by decide
    omega
  have J : Inv X pins σ (upd H1 q1 (.lst (ys.map V.str))) { ({ s1 with heap := h', toks := tk } : Shared) with heap := s'.heap, gens := s'.gens, drawn := s'.drawn, toks := s'.toks } :=
    I2.call (ch := []) (Un.laid k hp hn) (I2.hok.laid k hp (show ObjOk X.prog X.w _ s'.heap _ (.lst (ys.map V.str)) from ⟨hlen, out.toList, c, vals_of_strs hi, hg'⟩)) (by rw [g]; exact I2.bare) (fun _ z => nomatch z)
  have e2 : s' = { ({ s1 with heap := h', toks := tk } : Shared) with heap := s'.heap, gens := s'.gens, drawn := s'.drawn, toks := s'.toks } := by
    cases s'
    cases s1
    cases o
    rfl
  rw [e2]
  exact ⟨.ref q1, _, J, rfl, by rw [ey]; exact q q1 hn⟩
def eSrt (m : M D) : M D := bnd m fun d => match d with
  | .str l => fun _ μ => if l.length < 1000 then some (.ok (.lst ((sortL ((dedup l).map fun c => [c])).map .str)) μ) else none
  | _ => fun _ _ => none
theorem ae_srt (hc : X.calm = true) (hg : Gl X "sorted") (hm : X.mg "sorted" = none) (hg2 : Gl X "set") (hm2 : X.mg "set" = none) (he : AE p X W e me) (na : starEach [e] X.env = (false, eval e X.env) :: starEach [] X.env := by rfl) :
    AE p X W (.Call (.Name "sorted" pp) [.Call (.Name "set" p1) [e] [] p2] [] pos) (eSrt me) := by
  refine ⟨he.1, PE.imp (pe_srt hc hg hm hg2 hm2 he na) fun σ H Q ⟨Γ, μ, st, S, L, P⟩ => ?_⟩
  refine tG_bndE (rel := RD p) S L P fun d v μ1 st1 H1 e1 S1 L1 r1 P1 => ?_
  cases d with
  | str l =>
    dsimp only at P1
    split at P1
    · rename_i hl
      simp only [RD] at r1
      refine ⟨l, r1.1, hl, fun q hq => ?_⟩
      have hall : ∀ x ∈ sortL ((dedup l).map fun c => [c]), x.length ≤ 1000000 := fun x hx => by
        have h' := (List.mergeSort_perm _ leL).mem_iff.mp hx
        obtain ⟨c, _, ec⟩ := List.mem_map.mp h'
        subst ec; simp
      obtain ⟨a1, a2, a3⟩ := new_frz S1 hq (rdStrs (p := p) (st := st1) (H := H1) _ hall)
      exact P1 _ _ _ a1 a2 a3
    · exact P1.elim
  | _ => exact P1.elim
end
end Ab

set_option maxRecDepth 100000
set_option maxHeartbeats 1000000
namespace Ab
open PySem L2 PyProof.Rows PySem.Spec
/-! ### the end -/
theorem start_ok {p : Par} {H : Hp} {a : Addr} {ns : List Int} {g : Fn} (hS : SqL p.K H a (ns.map V.int)) (hg : ∃ μ', g [.ro ns] [] = some (.ok (.bl true) μ')) : spA p g [.ref a] H (fun v _ => v = .bl true) fun _ _ _ => False := by
  obtain ⟨μ', hg⟩ := hg
  have fin : ∀ F : Addr → Prop, (∀ b, F b → ∃ ho, H b = some ho) → RoL p ⟨[], F⟩ H a ns → spA p g [.ref a] H (fun v _ => v = .bl true) fun _ _ _ => False := by
    intro F hF hR
    refine ⟨[.ro ns], [], ⟨[], F⟩, ⟨rfl, List.nodup_nil, fun k b o h => by simp at h, fun b h => ⟨hF b h, fun k h => by simp at h⟩⟩, RDs.one (by simp only [RD]; exact ⟨a, rfl, hR⟩), ?_⟩
    rw [hg]
    intro st' H' v e' S' r'
    simp only [RD] at r'
    exact r'
  rcases hS with h | h
  · refine fin (fun b => b = a) (fun b hb => ?_) (.inl ⟨rfl, h⟩)
    subst hb
    rcases h with h | ⟨o, h⟩
    · exact ⟨_, h⟩
    · exact ⟨_, h⟩
  · exact fin (fun _ => False) (fun b hb => hb.elim) (.inr h)
/-- the law's def as the head asks for it -/
theorem fn_okF {P : Program} {w : World} {p : Par} {mg : Str → Option Value} {base : Heap} {x qual : Str} {st : Stmt} {f : Addr} {fd : FuncData} {N ps : List Str} {k : Nat} {m : SM} (F : Fun p.K x qual st f fd) (S : FnScope N ps (defScope st))
    (hbody : ∀ (cdv : Value) (A : Around) (outer : List Env) (s : Shared) (H : Hp) (E : XK), Room k (A.deeper (envOfC qual (defScope st) s.heap.objs.size f cdv)) → Takes (cxOf (L2.CX P w) P w p.K mg base N qual (defScope st) f cdv A outer s H E) (WofE E) →
      PassesOwn (model P w) (cxOf (L2.CX P w) P w p.K mg base N qual (defScope st) f cdv A outer s H E).A (cxOf (L2.CX P w) P w p.K mg base N qual (defScope st) f cdv A outer s H E).env (cxOf (L2.CX P w) P w p.K mg base N qual (defScope st) f cdv A outer s H E).xe →
      ASs p (cxOf (L2.CX P w) P w p.K mg base N qual (defScope st) f cdv A outer s H E) (WofE E) (defBody st) m) : FnOk P w p.K mg base (L2.CX P w) (k + 1) f fd ps (spA p (body N.length ps.length m)) :=
  F.okX S (fun vs H Q E h => (body_ok h).1) fun cdv A outer s H vs Q E hr h => ⟨_, (hbody cdv A outer s H E hr (takes_of rfl rfl rfl rfl) (passes_of rfl)).2, (body_ok h).2⟩
theorem walkX {l : PySem.W.OpenLaw} {k : Nat} {q : Program} {loose : List Str} {XP : (Str → Option Value) → Heap → Prop} {YP : World → Heap → Prop} {d : DefRec} {K : Params → PySem.W.Frag} {x : Str}
    (hn : l.most = some 63) (hdf : d.params.defaults = []) (hr : Room k callerA)
    (hY : ∀ (w : World) (h : Heap), YP w h → (K w.params).In h)
    (F : ∀ (w : World) (mg : Str → Option Value) (fa : Addr) (h : Heap), (K w.params).In h → h.Ns mainGlobals mg → mg d.name = some (.ref fa) → XP mg h →
      ∃ (p : Par) (g : Fn) (fd : FuncData), p.K = K w.params ∧ (∀ (s : Shared) (u : Value), BindsTo s fd ⟨[u], []⟩ [(x, u)]) ∧ (∀ ns : List Int, ns.length ≤ 63 → (∀ z ∈ ns, Builtin.Int.intBits z ≤ 1048576) → ∃ μ', g [.ro ns] [] = some (.ok (.bl true) μ')) ∧
        ∀ base : Heap, (K w.params).In base → base.Ns mainGlobals mg → FnOk l.prog w p.K mg base (L2.CX l.prog w) k fa fd [x] (spA p g)) :
    PySem.W.WalkO q loose XP YP l.row.toRowW d [] (fun f vs => PySem.call f vs) := by
  refine Att.attach_callB hn hdf fun w s₀ s₁ mg mb fa o pm cd doc a vs ns G Y ho hd hcd hmg hobj hints hlen hbits hg => ?_
  have KX := hY w _ Y
  obtain ⟨p, g, fd, eK, hb, hg2, hF⟩ := F w mg fa _ KX G.T.g hmg G.X
  rw [← eK] at KX hF
  refine law_call KX G.T.g G.T.b G.T.builtins G.T.nolimit hg hobj hints (Nat.le_trans hlen (by decide)) hr hF hb (fun H hO hS => start_ok hS (hg2 ns hlen hbits)) fun H e s' z => ?_
  obtain ⟨_, _, _, _, _, _, _, _, _, _, _, _, hE⟩ := z
  exact hE
/-- a loose text -/
theorem loose_str {p : Program} {lv : List (Str × PySem.W.WData)} {mg : Str → Option Value} {h : Heap} {x y : Str} (X : PySem.W.XL p lv mg h) (hx : (x, PySem.W.WData.str y) ∈ lv) : ∃ t, mg x = some (.str y t) := by
  obtain ⟨v, h1, h2⟩ := X.2.val _ hx
  cases h2
  exact ⟨_, h1⟩
end Ab

set_option maxRecDepth 100000
set_option maxHeartbeats 1000000
namespace Ab
open PySem L2 PyProof.Rows PySem.Spec
/-- a body whose cells stay -/
def bodyK (n k : Nat) (m : SM) : Fn := fun ds μ => if ds.length = k then (match m (startD n ds) μ with
  | some (.rt d μ') => some (.ok d μ')
  | some (.nx _ μ') => some (.ok .non μ')
  | some (.exc c xs _ μ') => some (.exc c xs μ')
  | _ => none) else none
theorem bodyK_ok {p : Par} {N : List Str} {k : Nat} {m : SM} {E : XK} {Q : VK} {vs : List V} {H : Hp} (h : spA p (bodyK N.length k m) vs H Q E) : vs.length = k ∧ tS p (WofE E) m { nx := fun _ H' => Q .non H', rt := Q } (L2.start N vs) H := by
  obtain ⟨ds, μ, st, S, r, P⟩ := h
  unfold bodyK at P
  split at P
  · rename_i hk
    refine ⟨by rw [← r.length]; exact hk, startD N.length ds, μ, st, S, startD_sl r, ?_⟩
    cases hm : m (startD N.length ds) μ with
    | none => rw [hm] at P; exact P
    | some q =>
      rw [hm] at P
      cases q with
      | nx Γ' μ' => exact fun st' σ' H' e' S' L' => P st' H' _ e' S' (by simp [RD])
      | rt d μ' => exact fun st' H' v e' S' r' => P st' H' _ e' S' r'
      | exc c xs Γ' μ' => exact fun st' σ' H' dd e' S' L' x' => P st' H' _ e' S' x'
      | bk _ _ => exact P.elim
      | ct _ _ => exact P.elim
  · exact P.elim
section
variable {P : Program} {w : World} {p : Par} {mg : Str → Option Value} {base : Heap} {x qual : Str} {st : Stmt} {f : Addr} {fd : FuncData} {N ps : List Str} {k : Nat} {m : SM}
/-- what a def's theorem shows -/
abbrev BodyOk (P : Program) (w : World) (p : Par) (mg : Str → Option Value) (base : Heap) (qual : Str) (st : Stmt) (f : Addr) (N : List Str) (k : Nat) (m : SM) : Prop :=
  ∀ (cdv : Value) (A : Around) (outer : List Env) (s : Shared) (H : Hp) (E : XK), Room k (A.deeper (envOfC qual (defScope st) s.heap.objs.size f cdv)) → Takes (cxOf (L2.CX P w) P w p.K mg base N qual (defScope st) f cdv A outer s H E) (WofE E) →
    PassesOwn (model P w) (cxOf (L2.CX P w) P w p.K mg base N qual (defScope st) f cdv A outer s H E).A (cxOf (L2.CX P w) P w p.K mg base N qual (defScope st) f cdv A outer s H E).env (cxOf (L2.CX P w) P w p.K mg base N qual (defScope st) f cdv A outer s H E).xe →
    ASs p (cxOf (L2.CX P w) P w p.K mg base N qual (defScope st) f cdv A outer s H E) (WofE E) (defBody st) m
theorem fnB (F : Fun p.K x qual st f fd) (hb : Binds p.K fd ps []) (S : FnScope N ps (defScope st)) (h : BodyOk P w p mg base qual st f N k m) : FnA P w p mg base (k + 1) f (body N.length ps.length m) := fn_ok F hb S h
theorem fnK (F : Fun p.K x qual st f fd) (hb : Binds p.K fd ps []) (S : FnScope N ps (defScope st)) (h : BodyOk P w p mg base qual st f N k m) : FnA P w p mg base (k + 1) f (bodyK N.length ps.length m) := by
  have G : FnOk P w p.K mg base (L2.CX P w) (k + 1) f fd ps (spA p (bodyK N.length ps.length m)) :=
    F.okX S (fun vs H Q E h => (bodyK_ok h).1) fun cdv A outer s H vs Q E hr q => ⟨_, (h cdv A outer s H E hr (takes_of rfl rfl rfl rfl) (passes_of rfl)).2, (bodyK_ok q).2⟩
  exact (G.raw hb .nil).imp fun vs H Q E h => by rw [List.append_nil]; exact h
end
/-- a local name -/
theorem av {p : Par} {X : Cx} {W : WX} (i : Nat) {x : Str} {pos : Pos} (hK : X.K = p.K := by rfl) (hN : X.N[i]? = some x := by rfl) (hv : Vis X.env.scope x := by first | exact Or.inl rfl | exact Or.inr (Or.inl rfl) | exact Or.inr (Or.inr rfl)) (hd : (x == ("__debug__" : Str)) = false := by decide)
    (hcd : (x == ("__classdict__" : Str)) = false := by decide) : AE p X W (.Name x pos) (eVar i) := ae_var hK (pv i hN hv hd hcd)
/-! ### the built-ins in short -/
section
variable {p : Par} {X : Cx} {W : WX} {pos pp apos : Pos} {e e2 o : Expr} {ma : M (List D)} {mo me : M D}
def gAbs := g1I fun i => .int (if i < 0 then -i else i)
def gMax := g2I fun i j => if j > i then j else i
def gMin := g2I fun i j => if j < i then j else i
def gAny := gBls fun bs => bs.any id
def gAll := gBls fun bs => bs.all id
theorem ae_len (hm : X.mg "len" = none) (ha : AA p X W [e] ma) (hg : Gl X "len" := by rfl) (he : starEach [e] X.env = (false, eval e X.env) :: starEach [] X.env := by rfl) : AE p X W (.Call (.Name "len" pp) [e] [] pos) (eCB false gLen ma) :=
  ae_callB false call_len (caN_len ha.1) hg hm (by decide +kernel) ha (hn := by decide) (hd := by decide) (he := he) (hpl := rfl)
theorem ae_abs (hm : X.mg "abs" = none) (ha : AA p X W [e] ma) (hg : Gl X "abs" := by rfl) (he : starEach [e] X.env = (false, eval e X.env) :: starEach [] X.env := by rfl) : AE p X W (.Call (.Name "abs" pp) [e] [] pos) (eCB false gAbs ma) :=
  ae_callB false call_abs caN_abs hg hm (by decide +kernel) ha (hn := by decide) (hd := by decide) (he := he) (hpl := rfl)
theorem ae_int1 (hm : X.mg "int" = none) (ha : AA p X W [e] ma) (hg : Gl X "int" := by rfl) (he : starEach [e] X.env = (false, eval e X.env) :: starEach [] X.env := by rfl) : AE p X W (.Call (.Name "int" pp) [e] [] pos) (eCB false gInt ma) :=
  ae_callTy false call_int1 caN_int hg hm (by decide +kernel) ha (hn := by decide) (hd := by decide) (he := he) (hpl := rfl)
theorem ae_max2 (hc : X.calm = true) (hm : X.mg "max" = none) (ha : AA p X W [e, e2] ma) (hg : Gl X "max" := by rfl) (he : starEach [e, e2] X.env = (false, eval e X.env) :: starEach [e2] X.env := by rfl) (hpl : (backTo pos (starEach [e2] X.env)).any (·.1) = false := by rfl) : AE p X W (.Call (.Name "max" pp) [e, e2] [] pos) (eCB false gMax ma) :=
  ae_callB false (call_max2 hc) caN_2I hg hm (by decide +kernel) ha (hn := by decide) (hd := by decide) (he := he) (hpl := hpl)
theorem ae_min2 (hc : X.calm = true) (hm : X.mg "min" = none) (ha : AA p X W [e, e2] ma) (hg : Gl X "min" := by rfl) (he : starEach [e, e2] X.env = (false, eval e X.env) :: starEach [e2] X.env := by rfl) (hpl : (backTo pos (starEach [e2] X.env)).any (·.1) = false := by rfl) : AE p X W (.Call (.Name "min" pp) [e, e2] [] pos) (eCB false gMin ma) :=
  ae_callB false (call_min2 hc) caN_2I hg hm (by decide +kernel) ha (hn := by decide) (hd := by decide) (he := he) (hpl := hpl)
theorem ae_any1 (hc : X.calm = true) (hm : X.mg "any" = none) (ha : AA p X W [e] ma) (hg : Gl X "any" := by rfl) (he : starEach [e] X.env = (false, eval e X.env) :: starEach [] X.env := by rfl) : AE p X W (.Call (.Name "any" pp) [e] [] pos) (eCB false gAny ma) :=
  ae_callB false (cr_any hc) (caN_any ha.1) hg hm (by decide +kernel) ha (hn := by decide) (hd := by decide) (he := he) (hpl := rfl)
theorem ae_all1 (hc : X.calm = true) (hm : X.mg "all" = none) (ha : AA p X W [e] ma) (hg : Gl X "all" := by rfl) (he : starEach [e] X.env = (false, eval e X.env) :: starEach [] X.env := by rfl) : AE p X W (.Call (.Name "all" pp) [e] [] pos) (eCB false gAll ma) :=
  ae_callB false (cr_all hc) (caN_all ha.1) hg hm (by decide +kernel) ha (hn := by decide) (hd := by decide) (he := he) (hpl := rfl)
theorem ae_sum1 (hc : X.calm = true) (hm : X.mg "sum" = none) (ha : AA p X W [e] ma) (hg : Gl X "sum" := by rfl) (he : starEach [e] X.env = (false, eval e X.env) :: starEach [] X.env := by rfl) : AE p X W (.Call (.Name "sum" pp) [e] [] pos) (eCB false gSum ma) :=
  ae_callB false (cr_sum hc) (caN_sum ha.1) hg hm (by decide +kernel) ha (hn := by decide) (hd := by decide) (he := he) (hpl := rfl)
theorem ae_list1 (c : Bool) (hm : X.mg "list" = none) (ha : AA p X W [e] ma) (hg : Gl X "list" := by rfl) (he : starEach [e] X.env = (false, eval e X.env) :: starEach [] X.env := by rfl) : AE p X W (.Call (.Name "list" pp) [e] [] pos) (eCB c gList ma) :=
  ae_callTy c call_list_of (caN_list ha.1) hg hm (by decide +kernel) ha (hn := by decide) (hd := by decide) (he := he) (hpl := rfl)
/-- methods of lists and texts -/
theorem ae_append (ho : AE p X W o mo) (ha : AA p X W [e] ma) (hbase : attributeBase o "append" X.env (eval o X.env) = eval o X.env := by rfl) (hline : (apos.endLine == pos.line) = true := by rfl)
    (hfew : ((backTo pos (starEach [e] X.env)).all (fun x => !x.1) && (backToKw pos (keywordEach [] X.env)).all (fun x => x.1.isSome) && decide ([e].length + ([] : List Keyword).length + (if ([] : List Keyword).isEmpty then 0 else 1) < 30)) = true := by rfl)
    (hs : starEach [e] X.env = (false, eval e X.env) :: starEach [] X.env := by rfl) : AE p X W (.Call (.Attribute o "append" apos) [e] [] pos) (eMe isLs gAppend mo ma) :=
  ae_bmL PySem.F.slot_list_append PySem.F.type_list_append mt_append meN_append ho ha hbase hfew hline hs rfl
theorem ae_popAt (ho : AE p X W o mo) (ha : AA p X W [e] ma) (hbase : attributeBase o "pop" X.env (eval o X.env) = eval o X.env := by rfl) (hline : (apos.endLine == pos.line) = true := by rfl)
    (hfew : ((backTo pos (starEach [e] X.env)).all (fun x => !x.1) && (backToKw pos (keywordEach [] X.env)).all (fun x => x.1.isSome) && decide ([e].length + ([] : List Keyword).length + (if ([] : List Keyword).isEmpty then 0 else 1) < 30)) = true := by rfl)
    (hs : starEach [e] X.env = (false, eval e X.env) :: starEach [] X.env := by rfl) : AE p X W (.Call (.Attribute o "pop" apos) [e] [] pos) (eMe isLs gPopAt mo ma) :=
  ae_bmL PySem.F.slot_list_pop PySem.F.type_list_pop mt_popAt meN_popAt ho ha hbase hfew hline hs rfl
theorem ae_join (ho : AE p X W o mo) (he : AE p X W e me) (hs : starEach [e] X.env = [(false, eval e X.env)] := by rfl) (hbase : attributeBase o "join" X.env (eval o X.env) = eval o X.env := by rfl) (hline : (apos.endLine == pos.line) = true := by rfl) :
    AE p X W (.Call (.Attribute o "join" apos) [e] [] pos) (eMe isSt gJoin mo (bnd me fun x => ret [x])) := ae_m1 PySem.F.slot_str_join PySem.F.type_str_join mt_join (meN_join ho.1) ho he hs hbase hline
end
/-! ### comparisons as tests -/
section
variable {p : Par} {X : Cx} {W : WX} {pos : Pos} {a b : Expr} {va vb : M D} {k : Nat} {f : Addr} {g : Fn}
theorem at_lt (ha : AE p X W a va) (hb : AE p X W b vb) : AT p X W (.Compare a [.Lt] [b] pos) (mB (eN false gLt va vb)) := at_cmp op_lt (opN_I0 (fun i j st H => by simp [RD]) false) ha hb (nobehind _ (by decide) (by decide))
theorem at_le (ha : AE p X W a va) (hb : AE p X W b vb) : AT p X W (.Compare a [.LtE] [b] pos) (mB (eN false gLe va vb)) := at_cmp op_le (opN_I0 (fun i j st H => by simp [RD]) false) ha hb (nobehind _ (by decide) (by decide))
theorem at_gt (ha : AE p X W a va) (hb : AE p X W b vb) : AT p X W (.Compare a [.Gt] [b] pos) (mB (eN false gGt va vb)) := at_cmp op_gt (opN_I0 (fun i j st H => by simp [RD]) false) ha hb (nobehind _ (by decide) (by decide))
theorem at_ge (ha : AE p X W a va) (hb : AE p X W b vb) : AT p X W (.Compare a [.GtE] [b] pos) (mB (eN false gGe va vb)) := at_cmp op_ge (opN_I0 (fun i j st H => by simp [RD]) false) ha hb (nobehind _ (by decide) (by decide))
theorem at_eq (hr : Room k X.A) (ha : AE p X W a va) (hb : AE p X W b vb) : AT p X W (.Compare a [.Eq] [b] pos) (mB (eN false (gEq false) va vb)) :=
  at_cmp (by rw [← ha.1]; exact OpR.or op_eq (op_eqD hr.units)) (opN_eq false) ha hb (nobehind _ (by decide) (by decide))
theorem at_ne (hr : Room k X.A) (ha : AE p X W a va) (hb : AE p X W b vb) : AT p X W (.Compare a [.NotEq] [b] pos) (mB (eN false (gEq true) va vb)) :=
  at_cmp (by rw [← ha.1]; exact OpR.or op_ne (op_neD hr.units)) (opN_ne false) ha hb (nobehind _ (by decide) (by decide))
theorem at_in (ha : AE p X W a va) (hb : AE p X W b vb) (hm : behindInMarks .In b = false := by rfl) : AT p X W (.Compare a [.In] [b] pos) (mB (eN false (gIn false) va vb)) :=
  at_cmp (by rw [← ha.1]; exact OpR.or op_in_seq op_in_sign) (OpN.or opN_inQ opN_inS false) ha hb hm
theorem at_nin (ha : AE p X W a va) (hb : AE p X W b vb) (hm : behindInMarks .NotIn b = false := by rfl) : AT p X W (.Compare a [.NotIn] [b] pos) (mB (eN false (gIn true) va vb)) :=
  at_cmp (by rw [← ha.1]; exact OpR.or op_notIn_seq op_notIn_sign) (OpN.or opN_inQ opN_notinS false) ha hb hm
theorem at_isN (ha : AE p X W a va) (hb : AE p X W b vb) : AT p X W (.Compare a [.Is] [b] pos) (mB (eN false (gIsN false) va vb)) := at_cmp op_isN (opN_isN false) ha hb (nobehind _ (by decide) (by decide))
theorem at_notN (ha : AE p X W a va) (hb : AE p X W b vb) : AT p X W (.Compare a [.IsNot] [b] pos) (mB (eN false (gIsN true) va vb)) := at_cmp op_notN (opN_notN false) ha hb (nobehind _ (by decide) (by decide))
theorem at_eqO {cs : List Nat} {c : Nat} (tk : Takes X W) (T : EqOk p cs c f) (F : FnA X.prog X.w p X.mg X.base k f g) (hr : Room k X.A) (ha : AE p X W a va) (hb : AE p X W b vb) : AT p X W (.Compare a [.Eq] [b] pos) (mB (eOp (fCmpO cs c g false) va vb)) :=
  at_cmp (op_eqO tk ha.1 T F hr) (opS_eqO T) ha hb (nobehind _ (by decide) (by decide))
theorem at_neO {cs : List Nat} {c : Nat} (tk : Takes X W) (T : EqOk p cs c f) (F : FnA X.prog X.w p X.mg X.base k f g) (hr : Room (k + 1) X.A) (ha : AE p X W a va) (hb : AE p X W b vb) : AT p X W (.Compare a [.NotEq] [b] pos) (mB (eOp (fCmpO cs c g true) va vb)) :=
  at_cmp (op_neO tk ha.1 T F hr) (opS_neO T) ha hb (nobehind _ (by decide) (by decide))
end
end Ab

set_option maxRecDepth 100000
set_option maxHeartbeats 1000000
namespace Ab
open PySem L2 PyProof.Rows PySem.Spec
section
variable {P : Program} {w : World} {p : Par} {mg : Str → Option Value} {base : Heap} {X : Cx} {W : WX} {pos pp apos pos' tpos : Pos} {e o i : Expr} {ma : M (List D)} {mo me mi : M D} {c : Nat} {fn x : Str} {j : Nat}
/-- one class's field -/
theorem f1 (h : FldOk p c fn j) : ∀ c' i', ([(c, j)] : List (Nat × Nat)).lookup c' = some i' → FldOk p c' fn i' := fun c' i' q => by
  simp only [List.lookup] at q
  split at q
  · rename_i hb
    cases q
    rw [beq_iff_eq] at hb
    subst hb
    exact h
  · cases q
theorem fn_none {k : Nat} {f : Addr} : FnA P w p mg base k f (fun _ _ => none) := fun A outer s H us vs Q E hr e0 r h => by
  obtain ⟨ds, μ, st, S, rr, q⟩ := h
  exact q.elim
/-- x += e: ints, texts -/
def gPlus : D → D → Sto → Option NV := fun x y μ => match gI (fun _ _ => true) (fun i j => .int (i + j)) x y μ with | some z => some z | none => gAddS x y μ
def fPlus : D → D → Sto → Option (D × Sto) := fun x y μ => (gPlus x y μ).map (fin false μ)
theorem as_plus {i : Nat} (hN : X.N.Nodup) (hi : X.N[i]? = some x) (hx : Loc X.env.scope x) (he : AE p X W e me)
    (hf : X.fn x = true ∨ X.env.scope.names.lookup x = some .local := by first | exact .inl rfl | exact .inr rfl | assumption) : AS p X W (.AugAssign (.Name x pos') .Add e pos) (sAug i fPlus me) :=
  as_aug hN hi hx he (OpR.or iop_add iop_add_str) (OpN.or (opN_I0 fun i j st H => by simp [RD]) opN_addS false) hf
def fPlusI : D → D → Sto → Option (D × Sto) := fun x y μ => (gI (fun _ _ => true) (fun i j => .int (i + j)) x y μ).map (fin false μ)
theorem as_fldPlus (T : FldOk p c fn j) (ho : AE p X W o mo) (he : AE p X W e me) : AS p X W (.AugAssign (.Attribute o fn tpos) .Add e pos) (sFldA [(c, j)] fPlusI mo me) :=
  as_fldA (f1 T) ho he in_add (opN_I0 (g := fun i j => .int (i + j)) (fun i j st H => by simp [RD]) false)
def fBor : D → D → Sto → Option (D × Sto) := fun x y μ => (gBor x y μ).map (fin false μ)
theorem as_subOr (ho : AE p X W o mo) (hi : AE p X W i mi) (he : AE p X W e me) (ha : ∀ ov iv new, augStore i ov iv new = (do holding [new, ov, iv] (setItem ov iv new); release [new, ov, iv] []; pure .next) := by intros; rfl) :
    AS p X W (.AugAssign (.Subscript o i tpos) .BitOr e pos) (sAugS fBor mo mi me) := as_augS ho hi he iop_or (opN_I0 (fun i j st H => by simp [RD]) false) ha
theorem ae_part (ho : AE p X W o mo) (he : AE p X W e me) (hs : starEach [e] X.env = [(false, eval e X.env)] := by rfl) (hbase : attributeBase o "partition" X.env (eval o X.env) = eval o X.env := by rfl) (hline : (apos.endLine == pos.line) = true := by rfl) :
    AE p X W (.Call (.Attribute o "partition" apos) [e] [] pos) (eMe isSt gPart mo (bnd me fun x => ret [x])) := ae_m1 PySem.F.slot_str_partition PySem.F.type_str_partition mt_partition meN_part ho he hs hbase hline
end
end Ab

set_option maxRecDepth 100000
set_option maxHeartbeats 1000000
namespace Ab
open PySem L2 PyProof.Rows PySem.Spec
section
variable {p : Par} {X : Cx} {W : WX} {pos : Pos} {x : Str} {mg : Str → Option Value}
theorem ae_globI' {i : Int} (hK : X.K = p.K) (hg : Gl X x) (hm : ∃ t, X.mg x = some (.int i t)) (h : (x == ("__debug__" : Str)) = false := by decide) : AE p X W (.Name x pos) (eC (.int i)) := by
  obtain ⟨t, hm⟩ := hm
  exact ae_globI hK hg hm h
theorem ae_globS' {l : List Nat} (hK : X.K = p.K) (hg : Gl X x) (hm : ∃ t, X.mg x = some (.str (mkS l) t)) (hl : l.length ≤ 1000000) (h : (x == ("__debug__" : Str)) = false := by decide) : AE p X W (.Name x pos) (eC (.str l)) := by
  obtain ⟨t, hm⟩ := hm
  exact ae_globS hK hg hm rfl hl h
/-- a tuple of texts that stands written -/
def KTup (K : PySem.W.Frag) (mg : Str → Option Value) (x : Str) (ls : List (List Nat)) : Prop := ∃ q ob its n, mg x = some (.ref q) ∧ K.lookup q = some ob ∧ ob.cls = .type "tuple" ∧ ob.data = .seq its n ∧ its.size ≤ 1000000 ∧ Vals ((ls.map mkS).map V.str) its.toList
theorem ae_globT' {ls : List (List Nat)} (hK : X.K = p.K) (hg : Gl X x) (hm : KTup p.K X.mg x ls) (hl : ∀ l ∈ ls, l.length ≤ 1000000) (h : (x == ("__debug__" : Str)) = false := by decide) : AE p X W (.Name x pos) (eC (.tup (ls.map .str))) := by
  obtain ⟨q, ob, its, n, h0, h1, h2, h3, h4, h5⟩ := hm
  exact ae_globT hK hg h0 h1 h2 h3 h4 h5 hl h
/-- a target that ends well, whatever is let out around it -/
theorem AG.w0 {t : Expr} {g : GM} (on : OnlyNx g) (h : AG p X W0 t g) : AG p X W t g := ⟨h.1, PG.imp h.2 fun v σ H Q ⟨Γ, μ, st, d, S, L, r, q⟩ => ⟨Γ, μ, st, d, S, L, r, by
  have o := on d Γ μ
  cases hg : g d Γ μ with
  | none => rw [hg] at q; exact q
  | some z =>
    rw [hg] at q o
    cases z with
    | nx _ _ => exact q
    | _ => exact o.elim⟩⟩
/-- turns enough for each while -/
def wfuel : Nat := 1000000
theorem tk0 : Takes X W0 := fun u s' ⟨a, B, sI, pins, σ, H, cls, d, e, I, nb, up, sky, na, os, ag, w⟩ => w.elim
theorem noexc_var {i : Nat} : ∀ Γ μ c ds μ', eVar i Γ μ ≠ some (.exc c ds μ') := fun Γ μ c ds μ' h => by
  unfold eVar at h
  split at h <;> cases h
end
theorem kit_self {K : PySem.W.Frag} {C : Addr} : PySem.W.kitOne K (.ref C) (.ref C) = some true := by
  unfold PySem.W.kitOne
  rw [if_pos (by simp)]
theorem kit_nf {K : PySem.W.Frag} {C : Addr} {t : Value} (h1 : PySem.W.isClsIn K C = true) (h2 : PySem.W.typeIn K (.ref C) = some (.type "type")) (h3 : PySem.W.notFirst K C t = true) (hne : (t == .ref C) = false) : PySem.W.kitOne K t (.ref C) = some false := by
  unfold PySem.W.kitOne
  rw [hne, if_neg (by simp)]
  unfold PySem.W.kitCls
  dsimp only
  have h1' : (PySem.W.clsIn K C).isSome = true := h1
  rw [h1', h2]
  simp only [beq_self_eq_true, Bool.and_self, if_true]
  unfold PySem.W.notFirst at h3
  rw [hne, Bool.false_or] at h3
  exact beq_iff_eq.mp h3
/-! ### defs as the head tells them -/
def DefOk (K : PySem.W.Frag) (x qual : Str) (st : Stmt) (f : Addr) (ps : List Str) : Prop := ∃ fd, Fun K x qual st f fd ∧ Binds K fd ps []
def StarOk (K : PySem.W.Frag) (x qual : Str) (st : Stmt) (f : Addr) (ps : List Str) (pv : Str) : Prop := ∃ oc od kV doc pm an cdv ct osl, K.lookup f = some ⟨oc, od, .func (PySem.W.fnOf x qual (defArgs st) (defBody st) (defScope st) .none kV doc pm an cdv ct), osl⟩ ∧ PySem.W.codeIn K cdv qual = true ∧
  ∀ us rest : List Value, us.length = ps.length → bindArgs (PySem.W.fnOf x qual (defArgs st) (defBody st) (defScope st) .none kV doc pm an cdv ct) ⟨us ++ rest, []⟩ = (newTuple rest >>= fun t => pure (ps.zip us ++ [(pv, t)]))
section
variable {P : Program} {w : World} {p : Par} {mg : Str → Option Value} {base : Heap} {x qual : Str} {st : Stmt} {f : Addr} {N ps : List Str} {pv : Str} {k : Nat} {m : SM}
theorem fnB' (u : DefOk p.K x qual st f ps) (S : FnScope N ps (defScope st)) (h : BodyOk P w p mg base qual st f N k m) : FnA P w p mg base (k + 1) f (body N.length ps.length m) := by
  obtain ⟨fd, F, b⟩ := u
  exact fnB F b S h
theorem fnK' (u : DefOk p.K x qual st f ps) (S : FnScope N ps (defScope st)) (h : BodyOk P w p mg base qual st f N k m) : FnA P w p mg base (k + 1) f (bodyK N.length ps.length m) := by
  obtain ⟨fd, F, b⟩ := u
  exact fnK F b S h
theorem fnS' (u : StarOk p.K x qual st f ps pv) (S : FnScope N (ps ++ [pv]) (defScope st)) (h : BodyOk P w p mg base qual st f N k m) : FnA P w p mg base (k + 1) f (starFn ps.length (body N.length (ps.length + 1) m)) := by
  obtain ⟨oc, od, kV, doc, pm, an, cdv, ct, osl, lk, hc, hb⟩ := u
  exact fn_starA lk hc S hb fun A outer s H E hr tk hp => h cdv A outer s H E hr tk hp
end
theorem dct_look : ∀ c v, ([([34], [34]), ([91], [93])] : List (List Nat × List Nat)).lookup c = some v → valV (mergeK [] (dctKV [([34], [34]), ([91], [93])])) (.inr (mkS c)) = some (.str (mkS v)) := by
  intro c v h
  simp only [List.lookup] at h
  split at h
  · rename_i hb
    rw [beq_iff_eq] at hb
    subst hb; cases h
    rfl
  · split at h
    · rename_i hb
      rw [beq_iff_eq] at hb
      subst hb; cases h
      rfl
    · cases h
end Ab

set_option maxRecDepth 100000
set_option maxHeartbeats 1000000
/-! what a term comes to, by what is asked behind it -/
namespace Ab
open PySem L2
def wM {α : Type} (m : M α) (Γ : Env') (μ : Sto) (Q : α → Sto → Prop) : Prop := match m Γ μ with | some (.ok a μ') => Q a μ' | _ => False
structure KS where
  n : Env' → Sto → Prop
  r : D → Sto → Prop
  b : Env' → Sto → Prop
  c : Env' → Sto → Prop
def wS (m : SM) (Γ : Env') (μ : Sto) (K : KS) : Prop := match m Γ μ with | some (.nx Γ' μ') => K.n Γ' μ' | some (.rt d μ') => K.r d μ' | some (.bk Γ' μ') => K.b Γ' μ' | some (.ct Γ' μ') => K.c Γ' μ' | _ => False
def wF (f : Fn) (ds : List D) (μ : Sto) (Q : D → Sto → Prop) : Prop := match f ds μ with | some (.ok d μ') => Q d μ' | _ => False
def wO {α : Type} (o : Option α) (Q : α → Prop) : Prop := match o with | some a => Q a | none => False
section
variable {α β : Type} {Γ : Env'} {μ : Sto}
theorem wM.imp {m : M α} {Q Q' : α → Sto → Prop} (h : wM m Γ μ Q) (i : ∀ a μ', Q a μ' → Q' a μ') : wM m Γ μ Q' := by
  unfold wM at *
  split at h
  · exact i _ _ h
  · exact h.elim
theorem wF.imp {f : Fn} {ds : List D} {Q Q' : D → Sto → Prop} (h : wF f ds μ Q) (i : ∀ a μ', Q a μ' → Q' a μ') : wF f ds μ Q' := by
  unfold wF at *
  split at h
  · exact i _ _ h
  · exact h.elim
theorem wS.imp {m : SM} {K K' : KS} (h : wS m Γ μ K) (i1 : ∀ a b, K.n a b → K'.n a b) (i2 : ∀ a b, K.r a b → K'.r a b) (i3 : ∀ a b, K.b a b → K'.b a b) (i4 : ∀ a b, K.c a b → K'.c a b) : wS m Γ μ K' := by
  unfold wS at *
  split at h
  · exact i1 _ _ h
  · exact i2 _ _ h
  · exact i3 _ _ h
  · exact i4 _ _ h
  · exact h.elim
theorem wF.get {f : Fn} {ds : List D} {Q : D → Sto → Prop} (h : wF f ds μ Q) : ∃ d μ', f ds μ = some (.ok d μ') ∧ Q d μ' := by
  unfold wF at h
  split at h
  · exact ⟨_, _, by assumption, h⟩
  · exact h.elim
theorem wF.of {f : Fn} {ds : List D} {d : D} {μ' : Sto} {Q : D → Sto → Prop} (h : f ds μ = some (.ok d μ')) (q : Q d μ') : wF f ds μ Q := by unfold wF; rw [h]; exact q
/-! values -/
theorem w_bnd {m : M α} {k : α → M β} {Q : β → Sto → Prop} : wM (bnd m k) Γ μ Q = wM m Γ μ fun a μ' => wM (k a) Γ μ' Q := by
  unfold wM bnd
  cases m Γ μ with
  | none => rfl
  | some r => cases r <;> rfl
theorem w_ret {a : α} {Q : α → Sto → Prop} : wM (ret a) Γ μ Q = Q a μ := rfl
theorem w_eC {d : D} {Q : D → Sto → Prop} : wM (eC d) Γ μ Q = Q d μ := rfl
theorem w_no {Q : α → Sto → Prop} : wM (fun _ _ => none : M α) Γ μ Q = False := rfl
theorem w_var {i : Nat} {Q : D → Sto → Prop} : wM (eVar i) Γ μ Q = wO Γ[i]? fun o => wO o fun d => Q d μ := by
  unfold wM eVar wO
  cases Γ[i]? with
  | none => rfl
  | some o => cases o <;> rfl
theorem w_opS {f : Sto → Option (α × Sto)} {Q : α → Sto → Prop} : wM (opS f) Γ μ Q = wO (f μ) fun z => Q z.1 z.2 := by
  unfold wM opS wO
  cases f μ <;> rfl
theorem w_op {f : D → D → Sto → Option (D × Sto)} {a b : M D} {Q : D → Sto → Prop} : wM (eOp f a b) Γ μ Q = wM a Γ μ fun x μ1 => wM b Γ μ1 fun y μ2 => wO (f x y μ2) fun z => Q z.1 z.2 := by
  unfold eOp
  simp only [w_bnd, w_opS]
theorem w_N {c : Bool} {g : D → D → Sto → Option NV} {a b : M D} {Q : D → Sto → Prop} : wM (eN c g a b) Γ μ Q = wM a Γ μ fun x μ1 => wM b Γ μ1 fun y μ2 => wO (g x y μ2) fun z => Q (fin c μ2 z).1 (fin c μ2 z).2 := by
  unfold eN
  simp only [w_op]
  congr 1; funext x μ1; congr 1; funext y μ2
  cases g x y μ2 <;> rfl
theorem w_CB {c : Bool} {g : List D → Sto → Option NV} {m : M (List D)} {Q : D → Sto → Prop} : wM (eCB c g m) Γ μ Q = wM m Γ μ fun xs μ1 => wO (g xs μ1) fun z => Q (fin c μ1 z).1 (fin c μ1 z).2 := by
  unfold eCB
  simp only [w_bnd, w_opS]
  congr 1; funext x μ1
  cases g x μ1 <;> rfl
theorem w_CS {g : List D → Sto → Option (D × Sto)} {m : M (List D)} {Q : D → Sto → Prop} : wM (eCS g m) Γ μ Q = wM m Γ μ fun xs μ1 => wO (g xs μ1) fun z => Q z.1 z.2 := by
  unfold eCS
  simp only [w_bnd, w_opS]
theorem w_nil {Q : List D → Sto → Prop} : wM aNil Γ μ Q = Q [] μ := rfl
theorem w_cons {a : M D} {r : M (List D)} {Q : List D → Sto → Prop} : wM (aCons a r) Γ μ Q = wM a Γ μ fun x μ1 => wM r Γ μ1 fun xs μ2 => Q (x :: xs) μ2 := by
  unfold aCons
  simp only [w_bnd, w_ret]
theorem w_fn {g : Fn} {ds : List D} {Q : D → Sto → Prop} : wM (fun _ μ => g ds μ) Γ μ Q = wF g ds μ Q := by
  unfold wM wF
  dsimp only
  generalize g ds μ = z
  cases z with
  | none => rfl
  | some r => cases r <;> rfl
theorem w_call {g : Fn} {m : M (List D)} {Q : D → Sto → Prop} : wM (eCall g m) Γ μ Q = wM m Γ μ fun ds μ1 => wF g ds μ1 Q := by
  unfold eCall
  simp only [w_bnd, w_fn]
theorem w_if {c : M Bool} {a b : M D} {Q : D → Sto → Prop} : wM (eIf c a b) Γ μ Q = wM c Γ μ fun k μ1 => if k = true then wM a Γ μ1 Q else wM b Γ μ1 Q := by
  unfold eIf
  simp only [w_bnd]
  congr 1; funext k μ1
  cases k <;> rfl
theorem w_B {m : M D} {Q : Bool → Sto → Prop} : wM (mB m) Γ μ Q = wM m Γ μ fun d μ1 => ∃ b, d = .bl b ∧ Q b μ1 := by
  unfold mB
  simp only [w_bnd]
  congr 1; funext d μ1
  cases d with
  | bl b => simp [asB, w_ret]
  | _ => simp [asB, wM]
theorem w_and {a b : M Bool} {Q : Bool → Sto → Prop} : wM (bAnd a b) Γ μ Q = wM a Γ μ fun k μ1 => if k = true then wM b Γ μ1 Q else Q false μ1 := by
  unfold bAnd
  simp only [w_bnd]
  congr 1; funext k μ1
  cases k <;> rfl
theorem w_or {a b : M Bool} {Q : Bool → Sto → Prop} : wM (bOr a b) Γ μ Q = wM a Γ μ fun k μ1 => if k = true then Q true μ1 else wM b Γ μ1 Q := by
  unfold bOr
  simp only [w_bnd]
  congr 1; funext k μ1
  cases k <;> rfl
theorem w_not {a : M Bool} {Q : Bool → Sto → Prop} : wM (bNot a) Γ μ Q = wM a Γ μ fun k μ1 => Q (!k) μ1 := by
  unfold bNot
  simp only [w_bnd, w_ret]
theorem w_vAnd {a b : M D} {Q : D → Sto → Prop} : wM (vAnd a b) Γ μ Q = wM a Γ μ fun d μ1 => ∃ k, d = .bl k ∧ if k = true then wM b Γ μ1 Q else Q (.bl false) μ1 := by
  unfold vAnd
  simp only [w_bnd]
  congr 1; funext d μ1
  cases d with
  | bl k => cases k <;> simp [w_ret]
  | _ => simp [wM]
theorem w_vOr {a b : M D} {Q : D → Sto → Prop} : wM (vOr a b) Γ μ Q = wM a Γ μ fun d μ1 => ∃ k, d = .bl k ∧ if k = true then Q (.bl true) μ1 else wM b Γ μ1 Q := by
  unfold vOr
  simp only [w_bnd]
  congr 1; funext d μ1
  cases d with
  | bl k => cases k <;> simp [w_ret]
  | _ => simp [wM]
theorem w_vNot {a : M D} {Q : D → Sto → Prop} : wM (vNot a) Γ μ Q = wM a Γ μ fun d μ1 => ∃ k, d = .bl k ∧ Q (.bl (!k)) μ1 := by
  unfold vNot
  simp only [w_bnd]
  congr 1; funext d μ1
  cases d with
  | bl k => cases k <;> simp [w_ret]
  | _ => simp [wM]
theorem w_neg {a : M D} {Q : D → Sto → Prop} : wM (eNeg a) Γ μ Q = wM a Γ μ fun d μ1 => ∃ i, d = .int i ∧ Q (.int (-i)) μ1 := by
  unfold eNeg
  simp only [w_bnd]
  congr 1; funext d μ1
  cases d with
  | int i => simp [w_ret]
  | _ => simp [wM]
theorem w_tup {m : M (List D)} {Q : D → Sto → Prop} : wM (eTup m) Γ μ Q = wM m Γ μ fun ds μ1 => ds.length ≤ 1000000 ∧ Q (.tup ds) μ1 := by
  unfold eTup
  simp only [w_bnd]
  congr 1; funext ds μ1
  unfold wM
  by_cases h : ds.length ≤ 1000000 <;> simp [h]
theorem w_lstF {m : M (List D)} {Q : D → Sto → Prop} : wM (eLstF m) Γ μ Q = wM m Γ μ fun ds μ1 => ds.length ≤ 1000000 ∧ Q (.lst ds) μ1 := by
  unfold eLstF
  simp only [w_bnd]
  congr 1; funext ds μ1
  unfold wM
  by_cases h : ds.length ≤ 1000000 <;> simp [h]
theorem w_lstC {m : M (List D)} {Q : D → Sto → Prop} : wM (eLstC m) Γ μ Q = wM m Γ μ fun ds μ1 => ds.length ≤ 1000000 ∧ Q (.ref μ1.length) (μ1 ++ [.lst ds]) := by
  unfold eLstC
  simp only [w_bnd]
  congr 1; funext ds μ1
  unfold wM
  by_cases h : ds.length ≤ 1000000 <;> simp [h]
theorem w_chain {f g : D → D → Sto → Option (D × Sto)} {a b c : M D} {Q : D → Sto → Prop} : wM (eChain f g a b c) Γ μ Q = wM a Γ μ fun x μ1 => wM b Γ μ1 fun y μ2 => wO (f x y μ2) fun z => wM (chK g y c z.1) Γ z.2 Q := by
  unfold eChain
  simp only [w_bnd, w_opS]
theorem w_fld {tb : List (Nat × Nat)} {o : M D} {Q : D → Sto → Prop} : wM (eFld tb o) Γ μ Q = wM o Γ μ fun x μ1 => wO (getF tb x μ1) fun d => Q d μ1 := by
  unfold eFld
  simp only [w_bnd, w_opS]
  congr 1; funext x μ1
  cases getF tb x μ1 <;> rfl
theorem w_sl {c : Bool} {o : M D} {lo hi : M (Option Int)} {Q : D → Sto → Prop} : wM (eSl c o lo hi) Γ μ Q = wM o Γ μ fun x μ1 => wM lo Γ μ1 fun l μ2 => wM hi Γ μ2 fun u μ3 => wO (gSl x l u μ3) fun z => Q (fin c μ3 z).1 (fin c μ3 z).2 := by
  unfold eSl
  simp only [w_bnd, w_opS]
  congr 1; funext x μ1; congr 1; funext l μ2; congr 1; funext u μ3
  cases gSl x l u μ3 <;> rfl
theorem w_oN {Q : Option Int → Sto → Prop} : wM oNone Γ μ Q = Q none μ := rfl
theorem w_oS {m : M D} {Q : Option Int → Sto → Prop} : wM (oSome m) Γ μ Q = wM m Γ μ fun d μ1 => ∃ i, d = .int i ∧ Q (some i) μ1 := by
  unfold oSome
  simp only [w_bnd]
  congr 1; funext d μ1
  cases d with
  | int i => simp [oInt, w_ret]
  | _ => simp [oInt, wM]
theorem w_isLs {x : D} {Q : Unit → Sto → Prop} : wM (isLs x) Γ μ Q = wO (asL μ x) fun _ => Q () μ := by
  unfold wM isLs wO
  cases asL μ x <;> rfl
theorem w_isSt {x : D} {Q : Unit → Sto → Prop} : wM (isSt x) Γ μ Q = ∃ l, x = .str l ∧ Q () μ := by
  unfold wM isSt
  cases x <;> simp
theorem w_me {chk : D → M Unit} {g : D → List D → Sto → Option (D × Sto)} {o : M D} {a : M (List D)} {Q : D → Sto → Prop} : wM (eMe chk g o a) Γ μ Q = wM o Γ μ fun x μ1 => wM (chk x) Γ μ1 fun _ μ2 => wM a Γ μ2 fun xs μ3 => wO (g x xs μ3) fun z => Q z.1 z.2 := by
  unfold eMe
  simp only [w_bnd, w_opS]
theorem w_isIns {c : Nat} {x : D} {Q : Unit → Sto → Prop} : wM (isIns c x) Γ μ Q = (insP c x μ = true ∧ Q () μ) := by
  unfold wM isIns insP
  cases x with
  | ref k =>
    dsimp only
    cases μ[k]? with
    | none => simp
    | some o =>
      cases o with
      | ins c' ds =>
        dsimp only
        by_cases h : c' = c <;> simp [h]
      | _ => simp
  | _ => simp
theorem w_meth {c : Nat} {g : Fn} {o : M D} {a : M (List D)} {Q : D → Sto → Prop} : wM (eMeth c g o a) Γ μ Q = wM o Γ μ fun x μ1 => insP c x μ1 = true ∧ wM a Γ μ1 fun ds μ2 => wF g (x :: ds) μ2 Q := by
  unfold eMeth
  simp only [w_bnd, w_isIns, w_fn]
theorem w_methS {c : Nat} {g : Fn} {o a : M D} {Q : D → Sto → Prop} : wM (eMethS c g o a) Γ μ Q = wM o Γ μ fun x μ1 => insP c x μ1 = true ∧ wM a Γ μ1 fun y μ2 => ∃ ds, y = .tup ds ∧ wF g (x :: ds) μ2 Q := by
  unfold eMethS
  simp only [w_bnd, w_isIns]
  congr 1; funext x μ1; congr 1; congr 1; funext y μ2
  cases y with
  | tup ds => simp only [asT, w_ret, D.tup.injEq, exists_eq_left', w_fn]
  | _ => simp [asT, wM]
theorem w_make {c : Nat} {g : Fn} {a : M (List D)} {Q : D → Sto → Prop} : wM (eMake c g a) Γ μ Q = wM a Γ μ fun ds μ1 => wF g (.ref μ1.length :: ds) (μ1 ++ [.ins c []]) fun d μ2 => d = .non ∧ Q (.ref μ1.length) μ2 := by
  unfold eMake
  simp only [w_bnd]
  congr 1; funext ds μ1
  unfold wM wF
  dsimp only
  generalize g (.ref μ1.length :: ds) (μ1 ++ [.ins c []]) = z
  cases z with
  | none => rfl
  | some r =>
    cases r with
    | ok d μ2 => cases d <;> simp
    | exc _ _ _ => rfl
theorem w_fmt {a : M D} {Q : D → Sto → Prop} : wM (eFmt a) Γ μ Q = wM a Γ μ fun d μ1 => ∃ l, d = .str l ∧ Q (.str l) μ1 := by
  unfold eFmt
  simp only [w_bnd]
  congr 1; funext d μ1
  cases d with
  | str l => simp [w_ret]
  | _ => simp [wM]
theorem w_frz {a : M D} {Q : D → Sto → Prop} : wM (eFrz a) Γ μ Q = wM a Γ μ fun d μ1 => Q (frzD d μ1).1 (frzD d μ1).2 := by
  unfold eFrz
  simp only [w_bnd]
  rfl
theorem w_isi {cs : List Nat} {tb : List (Ty × Bool)} {m : M D} {Q : D → Sto → Prop} : wM (eIsi cs tb m) Γ μ Q = wM m Γ μ fun d μ1 => wO (tyD μ1 d) fun t => tyOk cs t = true ∧ wO (lkT tb t) fun b => Q (.bl b) μ1 := by
  unfold eIsi
  simp only [w_bnd]
  congr 1; funext d μ1
  unfold wM wO
  dsimp only
  generalize tyD μ1 d = z
  cases z with
  | none => rfl
  | some t =>
    dsimp only
    by_cases h : tyOk cs t = true
    · simp only [h, if_true, true_and]
      cases lkT tb t <;> rfl
    · simp [h]
/-! ### statements -/
theorem s_bS {m : M α} {k : α → SM} {K : KS} : wS (bS m k) Γ μ K = wM m Γ μ fun a μ1 => wS (k a) Γ μ1 K := by
  unfold wS bS wM
  generalize m Γ μ = z
  cases z with
  | none => rfl
  | some r => cases r <;> rfl
theorem s_seq {a b : SM} {K : KS} : wS (sSeq a b) Γ μ K = wS a Γ μ { K with n := fun Γ1 μ1 => wS b Γ1 μ1 K } := by
  unfold wS sSeq
  generalize a Γ μ = z
  cases z with
  | none => rfl
  | some r => cases r <;> rfl
theorem s_next {K : KS} : wS sNext Γ μ K = K.n Γ μ := rfl
theorem s_set {i : Nat} {d : D} {K : KS} : wS (sSet i d) Γ μ K = K.n (Γ.set i (some d)) μ := rfl
theorem s_asg {m : M D} {g : GM} {K : KS} : wS (sAsg m g) Γ μ K = wM m Γ μ fun d μ1 => wS (g d) Γ μ1 K := by
  unfold sAsg
  rw [s_bS]
theorem s_expr {m : M D} {K : KS} : wS (sExpr m) Γ μ K = wM m Γ μ fun _ μ1 => K.n Γ μ1 := by
  unfold sExpr
  rw [s_bS]
  rfl
theorem s_ret {m : M D} {K : KS} : wS (sRet m) Γ μ K = wM m Γ μ fun d μ1 => K.r d μ1 := by
  unfold sRet
  rw [s_bS]
  rfl
theorem s_retN {K : KS} : wS sRetN Γ μ K = K.r .non μ := rfl
theorem s_if {c : M Bool} {a b : SM} {K : KS} : wS (sIf c a b) Γ μ K = wM c Γ μ fun k μ1 => if k = true then wS a Γ μ1 K else wS b Γ μ1 K := by
  unfold sIf
  rw [s_bS]
  congr 1; funext k μ1
  cases k <;> rfl
theorem s_cnt {K : KS} : wS sCnt Γ μ K = K.c Γ μ := rfl
theorem s_brk {K : KS} : wS sBrk Γ μ K = K.b Γ μ := rfl
theorem s_no {K : KS} : wS sNo Γ μ K = False := rfl
theorem s_par {i j : Nat} {m : M (List D)} {K : KS} : wS (sPar i j m) Γ μ K = wM m Γ μ fun ds μ1 => ∃ a b, ds = [a, b] ∧ K.n ((Γ.set i (some a)).set j (some b)) μ1 := by
  unfold sPar
  rw [s_bS]
  congr 1; funext ds μ1
  unfold wS
  match ds with
  | [] => simp
  | [_] => simp
  | [a, b] => exact propext ⟨fun h => ⟨a, b, rfl, h⟩, fun ⟨_, _, e, h⟩ => by cases e; exact h⟩
  | _ :: _ :: _ :: _ => simp
theorem s_par3 {i j l : Nat} {m : M (List D)} {K : KS} : wS (sPar3 i j l m) Γ μ K = wM m Γ μ fun ds μ1 => ∃ a b c, ds = [a, b, c] ∧ K.n (((Γ.set i (some a)).set j (some b)).set l (some c)) μ1 := by
  unfold sPar3
  rw [s_bS]
  congr 1; funext ds μ1
  unfold wS
  match ds with
  | [] => simp
  | [_] => simp
  | [_, _] => simp
  | [a, b, c] => exact propext ⟨fun h => ⟨a, b, c, rfl, h⟩, fun ⟨_, _, _, e, h⟩ => by cases e; exact h⟩
  | _ :: _ :: _ :: _ :: _ => simp
theorem s_tp {n : Nat} {r : List D → SM} {d : D} {K : KS} : wS (gTp n r d) Γ μ K = ∃ ds, d = .tup ds ∧ ds.length = n ∧ wS (r ds) Γ μ K := by
  unfold wS gTp
  cases d with
  | tup ds =>
    dsimp only
    by_cases h : ds.length = n <;> simp [h]
  | _ => simp
theorem s_gsNil {K : KS} : wS (gsNil []) Γ μ K = K.n Γ μ := rfl
theorem s_gsCons {g : GM} {r : List D → SM} {d : D} {ds : List D} {K : KS} : wS (gsCons g r (d :: ds)) Γ μ K = wS (g d) Γ μ { K with n := fun Γ1 μ1 => wS (r ds) Γ1 μ1 K } := by
  show wS (sSeq (g d) (r ds)) Γ μ K = _
  rw [s_seq]
theorem s_map {o : Option Sto} {K : KS} : wS (fun Γ _ => o.map fun μ' => SO.nx Γ μ') Γ μ K = wO o fun μ' => K.n Γ μ' := by
  unfold wS wO
  cases o <;> rfl
theorem s_fld {tb : List (Nat × Nat)} {o v : M D} {K : KS} : wS (sFld tb o v) Γ μ K = wM v Γ μ fun y μ1 => wM o Γ μ1 fun x μ2 => wO (setF tb x y μ2) fun μ3 => K.n Γ μ3 := by
  unfold sFld
  rw [s_bS]
  congr 1; funext y μ1
  rw [s_bS]
  congr 1; funext x μ2
  unfold wS wO
  dsimp only
  generalize setF tb x y μ2 = z
  cases z <;> rfl
theorem s_fldT {tb : List (Nat × Nat)} {o : M D} {z : D} {K : KS} : wS (gFldT tb o z) Γ μ K = wM o Γ μ fun x μ2 => wO (setF tb x z μ2) fun μ3 => K.n Γ μ3 := by
  unfold gFldT
  rw [s_bS]
  congr 1; funext x μ2
  unfold wS wO
  dsimp only
  generalize setF tb x z μ2 = q
  cases q <;> rfl
theorem s_sub {m o i : M D} {K : KS} : wS (sSub m o i) Γ μ K = wM m Γ μ fun z μ1 => wM o Γ μ1 fun x μ2 => wM i Γ μ2 fun y μ3 => wO (setIx x y z μ3) fun μ4 => K.n Γ μ4 := by
  unfold sSub
  rw [s_bS]
  congr 1; funext z μ1
  rw [s_bS]
  congr 1; funext x μ2
  rw [s_bS]
  congr 1; funext y μ3
  unfold wS wO
  dsimp only
  generalize setIx x y z μ3 = q
  cases q <;> rfl
theorem s_aug {i : Nat} {f : D → D → Sto → Option (D × Sto)} {m : M D} {K : KS} : wS (sAug i f m) Γ μ K = wM (eVar i) Γ μ fun x μ1 => wM m Γ μ1 fun y μ2 => wO (f x y μ2) fun z => K.n (Γ.set i (some z.1)) z.2 := by
  unfold sAug
  rw [s_bS, w_op]
  rfl
theorem s_fldA {tb : List (Nat × Nat)} {f : D → D → Sto → Option (D × Sto)} {o e : M D} {K : KS} : wS (sFldA tb f o e) Γ μ K = wM o Γ μ fun x μ1 => wO (getF tb x μ1) fun g => wM e Γ μ1 fun w μ2 => wO (f g w μ2) fun z => clsOf x z.2 = clsOf x μ1 ∧ wO (setF tb x z.1 z.2) fun μ3 => K.n Γ μ3 := by
  unfold sFldA
  rw [s_bS]
  congr 1; funext x μ1
  cases hg : getF tb x μ1 with
  | none => simp [wS, wO, hg]
  | some g =>
    refine Eq.trans (b := wS (bS e (fun w Γ μ2 => match f g w μ2 with | none => none | some (z, μ') => if clsOf x μ' = clsOf x μ1 then (setF tb x z μ').map fun μ'' => SO.nx Γ μ'' else none)) Γ μ1 K) ?_ ?_
    · unfold wS
      dsimp only
      first | (rw [hg]; rfl) | (rw [hg]; done)
    rw [s_bS]
    show _ = wM e Γ μ1 _
    congr 1; funext w μ2
    cases hf : f g w μ2 with
    | none => simp [wS, wO, hf]
    | some z =>
      obtain ⟨z, μ'⟩ := z
      simp only [wS, wO, hf]
      by_cases h : clsOf x μ' = clsOf x μ1
      · simp only [h, if_true, true_and]
        cases setF tb x z μ' <;> rfl
      · simp [h]
theorem s_augS {f : D → D → Sto → Option (D × Sto)} {o i e : M D} {K : KS} : wS (sAugS f o i e) Γ μ K = wM o Γ μ fun x μ1 => wM i Γ μ1 fun y μ2 => wO (getN x y μ2) fun g => wM e Γ μ2 fun w μ3 => wO (f g w μ3) fun z => wO (setIx x y z.1 z.2) fun μ4 => K.n Γ μ4 := by
  unfold sAugS
  rw [s_bS]
  congr 1; funext x μ1
  rw [s_bS]
  congr 1; funext y μ2
  cases hg : getN x y μ2 with
  | none => simp [wS, wO, hg]
  | some g =>
    refine Eq.trans (b := wS (bS e (fun w Γ μ => match f g w μ with | none => none | some (z, μ') => (setIx x y z μ').map fun μ'' => SO.nx Γ μ'')) Γ μ2 K) ?_ ?_
    · unfold wS
      dsimp only
      first | (rw [hg]; rfl) | (rw [hg]; done)
    rw [s_bS]
    show _ = wM e Γ μ2 _
    congr 1; funext w μ3
    cases hf : f g w μ3 with
    | none => simp [wS, wO, hf]
    | some z =>
      obtain ⟨z, μ'⟩ := z
      simp only [wS, wO, hf]
      cases setIx x y z μ' <;> rfl
/-! ### defs -/
theorem f_body {n k : Nat} {m : SM} {ds : List D} {Q : D → Sto → Prop} : wF (body n k m) ds μ Q = (ds.length = k ∧ wS m (startD n ds) μ { n := fun _ μ1 => Q (leave μ .non μ1).1 (leave μ .non μ1).2, r := fun d μ1 => Q (leave μ d μ1).1 (leave μ d μ1).2, b := fun _ _ => False, c := fun _ _ => False }) := by
  unfold wF body wS
  by_cases h : ds.length = k
  · simp only [h, if_true, true_and]
    generalize m (startD n ds) μ = z
    cases z with
    | none => rfl
    | some r => cases r <;> rfl
  · simp [h]
theorem f_bodyK {n k : Nat} {m : SM} {ds : List D} {Q : D → Sto → Prop} : wF (bodyK n k m) ds μ Q = (ds.length = k ∧ wS m (startD n ds) μ { n := fun _ μ1 => Q .non μ1, r := fun d μ1 => Q d μ1, b := fun _ _ => False, c := fun _ _ => False }) := by
  unfold wF bodyK wS
  by_cases h : ds.length = k
  · simp only [h, if_true, true_and]
    generalize m (startD n ds) μ = z
    cases z with
    | none => rfl
    | some r => cases r <;> rfl
  · simp [h]
theorem f_star {n : Nat} {g : Fn} {ds : List D} {Q : D → Sto → Prop} : wF (starFn n g) ds μ Q = ((n ≤ ds.length ∧ ds.length ≤ 1000000) ∧ wF g (ds.take n ++ [.tup (ds.drop n)]) μ Q) := by
  unfold wF starFn
  by_cases h : n ≤ ds.length ∧ ds.length ≤ 1000000
  · simp only [h, if_true, true_and, and_self]
  · simp [h]
/-! ### loops -/
theorem s_while {c : M Bool} {b : SM} {K : KS} {n : Nat} (I : Nat → Env' → Sto → Prop) (h0 : ∃ m, m < n ∧ I m Γ μ)
    (hs : ∀ m Γ1 μ1, I m Γ1 μ1 → wM c Γ1 μ1 fun k μ2 => if k = true then wS b Γ1 μ2 { n := fun Γ3 μ3 => ∃ m', m' < m ∧ I m' Γ3 μ3, r := K.r, b := K.n, c := fun Γ3 μ3 => ∃ m', m' < m ∧ I m' Γ3 μ3 } else K.n Γ1 μ2) : wS (sWhile c b n) Γ μ K := by
  induction n generalizing Γ μ with
  | zero => obtain ⟨m, h, _⟩ := h0; omega
  | succ n ih =>
    obtain ⟨m, hm, hI⟩ := h0
    have q := hs m Γ μ hI
    show wS (bS c fun k => if k = true then (fun Γ μ => match b Γ μ with
      | some (.nx Γ' μ') => sWhile c b n Γ' μ'
      | some (.ct Γ' μ') => sWhile c b n Γ' μ'
      | some (.bk Γ' μ') => some (.nx Γ' μ')
      | r => r) else sNext) Γ μ K
    rw [s_bS]
    refine q.imp fun k μ2 q2 => ?_
    cases k with
    | false => exact q2
    | true =>
      rw [if_pos rfl] at q2 ⊢
      unfold wS at q2 ⊢
      dsimp only
      cases hb : b Γ μ2 with
      | none => rw [hb] at q2; exact q2.elim
      | some r =>
        rw [hb] at q2
        cases r with
        | nx Γ3 μ3 =>
          obtain ⟨m', h1, h2⟩ := q2
          exact ih ⟨m', by omega, h2⟩
        | ct Γ3 μ3 =>
          obtain ⟨m', h1, h2⟩ := q2
          exact ih ⟨m', by omega, h2⟩
        | bk Γ3 μ3 => exact q2
        | rt d μ3 => exact q2
        | exc _ _ _ _ => exact q2.elim
/-- for over fixed things -/
theorem forLoop_fix {ds : List D} {g : GM} {b : SM} {K : KS} (I : Nat → Env' → Sto → Prop)
    (hs : ∀ i d Γ1 μ1, ds[i]? = some d → I i Γ1 μ1 → wS (g d) Γ1 μ1 { n := fun Γ2 μ2 => wS b Γ2 μ2 { n := I (i + 1), r := K.r, b := K.n, c := I (i + 1) }, r := K.r, b := K.n, c := I (i + 1) })
    (hd : ∀ Γ1 μ1, I ds.length Γ1 μ1 → K.n Γ1 μ1) : ∀ (n i : Nat) (Γ : Env') (μ : Sto), ds.length < n + i → i ≤ ds.length → I i Γ μ → wS (forLoop (.fix ds) g b n i) Γ μ K
  | 0, i, Γ, μ, h, h2, hI => by omega
  | n + 1, i, Γ, μ, h, h2, hI => by
    unfold wS forLoop
    simp only [Src.item]
    cases hd2 : ds[i]? with
    | none =>
      have e : i = ds.length := by
        have := List.getElem?_eq_none_iff.mp hd2
        omega
      subst e
      exact hd Γ μ hI
    | some d =>
      have hi := (List.getElem?_eq_some_iff.mp hd2).1
      have q := hs i d Γ μ hd2 hI
      rw [← s_seq (K := { n := I (i + 1), r := K.r, b := K.n, c := I (i + 1) })] at q
      unfold wS at q
      dsimp only
      cases hb : sSeq (g d) b Γ μ with
      | none => rw [hb] at q; exact q.elim
      | some r =>
        rw [hb] at q
        cases r with
        | nx Γ3 μ3 => exact forLoop_fix I hs hd n (i + 1) Γ3 μ3 (by omega) (by omega) q
        | ct Γ3 μ3 => exact forLoop_fix I hs hd n (i + 1) Γ3 μ3 (by omega) (by omega) q
        | bk Γ3 μ3 => exact q
        | rt d μ3 => exact q
        | exc _ _ _ _ => exact q.elim
theorem s_for {m : M Src} {g : GM} {b : SM} {K : KS} : wS (sFor m g b) Γ μ K = wM m Γ μ fun s μ1 => wS (forLoop s g b (s.fuel μ1) 0) Γ μ1 K := by
  unfold sFor
  rw [s_bS]
  rfl
theorem s_fix {ds : List D} {g : GM} {b : SM} {K : KS} (I : Nat → Env' → Sto → Prop) (h0 : I 0 Γ μ)
    (hs : ∀ i d Γ1 μ1, ds[i]? = some d → I i Γ1 μ1 → wS (g d) Γ1 μ1 { n := fun Γ2 μ2 => wS b Γ2 μ2 { n := I (i + 1), r := K.r, b := K.n, c := I (i + 1) }, r := K.r, b := K.n, c := I (i + 1) })
    (hd : ∀ Γ1 μ1, I ds.length Γ1 μ1 → K.n Γ1 μ1) : wS (forLoop (.fix ds) g b (Src.fuel μ (.fix ds)) 0) Γ μ K := forLoop_fix I hs hd _ 0 Γ μ (by simp [Src.fuel]) (Nat.zero_le _) h0
/-- a comprehension over fixed things -/
theorem lc_fix {ds : List D} {c : CT} {tt : M Bool} {te : M D} {Γ0 : Env'} {Q : List D × Sto → Prop} (I : Nat → List D → Sto → Prop)
    (hs : ∀ i d acc μ1, ds[i]? = some d → I i acc μ1 → ∃ Γ1, c.set d Γ0 = some Γ1 ∧ wM tt Γ1 μ1 fun k μ2 => if k = true then wM te Γ1 μ2 fun y μ3 => acc.length < big ∧ I (i + 1) (acc ++ [y]) μ3 else I (i + 1) acc μ2)
    (hd : ∀ acc μ1, I ds.length acc μ1 → Q (acc, μ1)) : ∀ (n i : Nat) (acc : List D) (μ : Sto), ds.length < n + i → i ≤ ds.length → I i acc μ → wO (lcLoop (.fix ds) c tt te Γ0 n i acc μ) Q
  | 0, i, acc, μ, h, h2, hI => by omega
  | n + 1, i, acc, μ, h, h2, hI => by
    unfold lcLoop
    simp only [Src.item]
    cases hd2 : ds[i]? with
    | none =>
      have e : i = ds.length := by
        have := List.getElem?_eq_none_iff.mp hd2
        omega
      subst e
      exact hd acc μ hI
    | some d =>
      have hi := (List.getElem?_eq_some_iff.mp hd2).1
      obtain ⟨Γ1, hc, q⟩ := hs i d acc μ hd2 hI
      simp only [hc]
      unfold wM at q
      cases ht : tt Γ1 μ with
      | none => rw [ht] at q; exact q.elim
      | some r =>
        rw [ht] at q
        cases r with
        | exc _ _ _ => exact q.elim
        | ok k μ2 =>
          cases k with
          | false => exact lc_fix I hs hd n (i + 1) acc μ2 (by omega) (by omega) q
          | true =>
            dsimp only at q ⊢
            rw [if_pos rfl] at q
            cases he : te Γ1 μ2 with
            | none => rw [he] at q; exact q.elim
            | some r2 =>
              rw [he] at q
              cases r2 with
              | exc _ _ _ => exact q.elim
              | ok y μ3 =>
                dsimp only at q ⊢
                rw [if_pos q.1]
                exact lc_fix I hs hd n (i + 1) _ μ3 (by omega) (by omega) q.2
theorem w_lc {cm : Bool} {m : M Src} {c : CT} {own : List Nat} {tt : M Bool} {te : M D} {Q : D → Sto → Prop} : wM (eLc cm m c own tt te) Γ μ Q = wM m Γ μ fun s μ1 => wO (lcLoop s c tt te (wipeD Γ own) (s.fuel μ1) 0 [] μ1) fun z => Q (fin cm z.2 (.l z.1)).1 (fin cm z.2 (.l z.1)).2 := by
  unfold eLc
  rw [w_bnd]
  congr 1; funext s μ1
  unfold wM wO
  dsimp only
  generalize lcLoop s c tt te (wipeD Γ own) (s.fuel μ1) 0 [] μ1 = z
  cases z with
  | none => rfl
  | some z => rfl
theorem w_src {m : M D} {Q : Src → Sto → Prop} : wM (iSrc m) Γ μ Q = wM m Γ μ fun d μ1 => wM (srcOf d) Γ μ1 Q := by
  unfold iSrc
  rw [w_bnd]
theorem w_srcL {ds : List D} {Q : Src → Sto → Prop} : wM (srcOf (.lst ds)) Γ μ Q = Q (.fix ds) μ := rfl
theorem w_srcT {ds : List D} {Q : Src → Sto → Prop} : wM (srcOf (.tup ds)) Γ μ Q = Q (.fix ds) μ := rfl
theorem w_srcS {l : List Nat} {Q : Src → Sto → Prop} : wM (srcOf (.str l)) Γ μ Q = Q (.fix (l.map fun c => .str [c])) μ := rfl
theorem w_srcR {ns : List Int} {Q : Src → Sto → Prop} : wM (srcOf (.ro ns)) Γ μ Q = Q (.fix (ns.map .int)) μ := rfl
theorem w_rng1 {m : M (List D)} {Q : Src → Sto → Prop} : wM (iRng1' m) Γ μ Q = wM m Γ μ fun ds μ1 => ∃ j, ds = [.int j] ∧ (j ≤ 1000000 ∧ -1000000 ≤ j) ∧ Q (.fix (intsD 0 j.toNat)) μ1 := by
  unfold iRng1'
  rw [w_bnd]
  congr 1; funext ds μ1
  cases ds with
  | nil => simp [wM, rng1]
  | cons d r =>
    cases r with
    | cons _ _ => cases d <;> simp [wM, rng1]
    | nil =>
      cases d with
      | int j =>
        unfold wM rng1
        dsimp only
        by_cases h : j ≤ 1000000 ∧ -1000000 ≤ j <;> simp [h]
      | _ => simp [wM, rng1]
end
end Ab

set_option maxRecDepth 100000
set_option maxHeartbeats 1000000
/-! the operations at plain values -/
namespace Ab
open PySem L2
theorem wO_some {α : Type} {a : α} {Q : α → Prop} : wO (some a) Q = Q a := rfl
theorem wO_none {α : Type} {Q : α → Prop} : wO (none : Option α) Q = False := rfl
section
variable {μ : Sto} {i j : Int} {a b : List Nat} {k : Nat} {ds es : List D} {d e : D}
theorem o_add : gAdd (.int i) (.int j) μ = some (.v (.int (i + j))) := rfl
theorem o_sub : gSub (.int i) (.int j) μ = some (.v (.int (i - j))) := rfl
theorem o_mul (h : -(2 ^ 64) < i ∧ i < 2 ^ 64) : gMul (.int i) (.int j) μ = some (.v (.int (i * j))) := by
  unfold gMul gI
  simp only [decide_eq_true h, if_true]
theorem o_mod (h : 0 < j) : gMod (.int i) (.int j) μ = some (.v (.int (i % j))) := by simp [gMod, gI, h]
theorem o_fdiv (h : 0 < j ∧ j < 1073741824) : gFdiv (.int i) (.int j) μ = some (.v (.int (i / j))) := by simp [gFdiv, gI, h]
theorem o_pow (h : 0 ≤ j ∧ j ≤ 1000000 ∧ i.natAbs < 2 ^ 64) : gPow (.int i) (.int j) μ = some (.v (.int (i ^ j.toNat))) := by
  unfold gPow gI
  simp only [decide_eq_true h, if_true]
theorem o_shl (h : 0 ≤ j ∧ j ≤ 1000000 ∧ i.natAbs < 2 ^ 64) : gShl (.int i) (.int j) μ = some (.v (.int (i * 2 ^ j.toNat))) := by
  unfold gShl gI
  simp only [decide_eq_true h, if_true]
theorem o_shr (h : 0 ≤ j) : gShr (.int i) (.int j) μ = some (.v (.int (i / 2 ^ j.toNat))) := by simp [gShr, gI, h]
theorem o_band : gBand (.int i) (.int j) μ = some (.v (.int (Builtin.bitAnd i j))) := rfl
theorem o_bor : gBor (.int i) (.int j) μ = some (.v (.int (Builtin.bitOr i j))) := rfl
theorem o_lt : gLt (.int i) (.int j) μ = some (.v (.bl (decide (i < j)))) := rfl
theorem o_le : gLe (.int i) (.int j) μ = some (.v (.bl (decide (i ≤ j)))) := rfl
theorem o_gt : gGt (.int i) (.int j) μ = some (.v (.bl (decide (j < i)))) := rfl
theorem o_ge : gGe (.int i) (.int j) μ = some (.v (.bl (decide (j ≤ i)))) := rfl
theorem o_eqI {n : Bool} : gEq n (.int i) (.int j) μ = some (.v (.bl (if n then !decide (i = j) else decide (i = j)))) := rfl
theorem o_eqS {n : Bool} : gEq n (.str a) (.str b) μ = some (.v (.bl (if n then !decide (a = b) else decide (a = b)))) := rfl
theorem o_int : gInt [.int i] μ = some (.v (.int i)) := rfl
theorem o_intB {b : Bool} : gInt [.bl b] μ = some (.v (.int (if b then 1 else 0))) := rfl
theorem o_abs : gAbs [.int i] μ = some (.v (.int (if i < 0 then -i else i))) := rfl
theorem o_max : gMax [.int i, .int j] μ = some (.v (.int (if j > i then j else i))) := rfl
theorem o_min : gMin [.int i, .int j] μ = some (.v (.int (if j < i then j else i))) := rfl
theorem o_addS (h : a.length + b.length ≤ big) : gAdd (.str a) (.str b) μ = some (.v (.str (a ++ b))) := by
  simp only [gAdd, gI, gAddS, if_pos h]
theorem o_addL {x y : D} (hx : asL μ x = some ds) (hy : asL μ y = some es) (h : ds.length + es.length ≤ big) : gAdd x y μ = some (.l (ds ++ es)) := by
  have e1 : gI (fun _ _ => true) (fun i j => D.int (i + j)) x y μ = none := by
    cases x <;> simp [asL] at hx <;> cases y <;> simp [asL] at hy <;> rfl
  have e2 : gAddS x y μ = none := by
    cases x <;> simp [asL] at hx <;> cases y <;> simp [asL] at hy <;> rfl
  simp only [gAdd, e1, e2, gAddL, hx, hy, if_pos h]
theorem o_mulS (h : j ≤ 1000000 ∧ -1000000 ≤ j ∧ a.length * j.toNat ≤ big) : gMul (.str a) (.int j) μ = some (.v (.str (List.replicate j.toNat a).flatten)) := by
  unfold gMul gI gMulS
  simp only [if_pos h]
theorem o_mulL {x : D} (hx : asL μ x = some ds) (h : j ≤ 1000000 ∧ -1000000 ≤ j ∧ ds.length * j.toNat ≤ big) : gMul x (.int j) μ = some (.l (List.replicate j.toNat ds).flatten) := by
  have e1 : ∀ P g, gI P g x (.int j) μ = none := by
    intro P g
    cases x <;> simp [asL] at hx <;> rfl
  have e2 : gMulS x (.int j) μ = none := by
    cases x <;> simp [asL] at hx <;> rfl
  simp only [gMul, e1, e2, gMulL, hx, if_pos h]
theorem o_lenS : gLen [.str a] μ = some (.v (.int a.length)) := rfl
theorem o_lenL : gLen [.lst ds] μ = some (.v (.int ds.length)) := rfl
theorem o_lenT : gLen [.tup ds] μ = some (.v (.int ds.length)) := rfl
theorem o_lenR {ns : List Int} : gLen [.ro ns] μ = some (.v (.int ns.length)) := rfl
theorem o_lenC (h : μ[k]? = some (.lst ds)) : gLen [.ref k] μ = some (.v (.int ds.length)) := by simp [gLen, lenD, h]
theorem l_lst : asL μ (.lst ds) = some ds := rfl
theorem l_ref (h : μ[k]? = some (.lst ds)) : asL μ (.ref k) = some ds := by simp [asL, h]
theorem ixN_ok {n i : Nat} (h : i < n) : ixN n (i : Int) = some i := by
  unfold ixN
  rw [if_pos (by omega), if_pos (by omega)]
  simp
theorem ix_ok {α : Type} {xs : List α} {i : Nat} {x : α} (h : xs[i]? = some x) : atI xs (i : Int) = some x := by
  unfold atI
  rw [ixN_ok (List.getElem?_eq_some_iff.mp h).1]
  exact h
theorem o_ixS {i : Nat} {c : Nat} (h : a[i]? = some c) : gIx (.str a) (.int (i : Int)) μ = some (.str [c], μ) := by simp [gIx, ix_ok h]
theorem o_ixL {i : Nat} (h : ds[i]? = some d) : gIx (.lst ds) (.int (i : Int)) μ = some (d, μ) := by simp [gIx, asSeq, asL, ix_ok h]
theorem o_ixT {i : Nat} (h : ds[i]? = some d) : gIx (.tup ds) (.int (i : Int)) μ = some (d, μ) := by simp [gIx, asSeq, ix_ok h]
theorem o_ixC {i : Nat} (hk : μ[k]? = some (.lst ds)) (h : ds[i]? = some d) : gIx (.ref k) (.int (i : Int)) μ = some (d, μ) := by simp [gIx, asSeq, asL, hk, ix_ok h]
theorem o_setC {i : Nat} (hk : μ[k]? = some (.lst ds)) (h : i < ds.length) : setIx (.ref k) (.int (i : Int)) d μ = some (μ.set k (.lst (ds.set i d))) := by simp [setIx, hk, ixN_ok h]
theorem o_append (hk : μ[k]? = some (.lst ds)) (h : ds.length < big) : gAppend (.ref k) [d] μ = some (.non, μ.set k (.lst (ds ++ [d]))) := by simp [gAppend, hk, h]
theorem o_popAt {i : Nat} (hk : μ[k]? = some (.lst ds)) (hi : i < 1000000) (h : ds[i]? = some d) : gPopAt (.ref k) [.int (i : Int)] μ = some (d, μ.set k (.lst (ds.eraseIdx i))) := by
  simp only [gPopAt, hk]
  rw [if_pos (by omega)]
  simp [h]
theorem set_at {o : O} (h : k < μ.length) : (μ.set k o)[k]? = some o := List.getElem?_set_self h
theorem lt_at {o : O} (h : μ[k]? = some o) : k < μ.length := (List.getElem?_eq_some_iff.mp h).1
theorem insP_ok' {c : Nat} (h : μ[k]? = some (.ins c ds)) : insP c (.ref k) μ = true := by simp [insP, h]
theorem o_getF {c i : Nat} (h : μ[k]? = some (.ins c ds)) (hd : ds[i]? = some d) : getF [(c, i)] (.ref k) μ = some d := by simp [getF, h, List.lookup, hd]
theorem o_setF {c i : Nat} (h : μ[k]? = some (.ins c ds)) (hi : i < ds.length) : setF [(c, i)] (.ref k) d μ = some (μ.set k (.ins c (ds.set i d))) := by simp [setF, h, List.lookup, hi]
theorem o_newF {c i : Nat} (h : μ[k]? = some (.ins c ds)) (hi : i = ds.length) : setF [(c, i)] (.ref k) d μ = some (μ.set k (.ins c (ds ++ [d]))) := by simp [setF, h, List.lookup, hi]
theorem leave_same {μ' : Sto} (h : μ'.length = μ.length) : leave μ d μ' = (d, μ') := by
  unfold leave
  split
  · rw [← h, List.take_length]
    have : leaveD μ d μ' = d := by
      cases d with
      | ref k =>
        simp only [leaveD]
        split
        · rename_i hk
          rw [List.getElem?_eq_none_iff.mpr (by omega)]
        · rfl
      | _ => rfl
    rw [this]
  · rfl
/-- cells of the def are left behind -/
theorem leave_app {ν l : Sto} {d' : D} (hl : ν.length = μ.length) (ht : ∀ (i : Nat) o, ν[i]? = some o → μ[i]? = some o ∨ refsO μ.length o = true) (hd : leaveD μ d (ν ++ l) = d') (hr : refsLt μ.length d' = true) : leave μ d (ν ++ l) = (d', ν) := by
  unfold leave
  rw [if_pos]
  · rw [hd, ← hl, List.take_left']
    rfl
  · refine ⟨by simp [hl], fun i o hi h => ?_, by rw [hd]; exact hr⟩
    rw [List.getElem?_append_left (by omega)] at h
    exact ht i o h
theorem leave_pure {l : Sto} {d' : D} (hd : leaveD μ d (μ ++ l) = d') (hr : refsLt μ.length d' = true) : leave μ d (μ ++ l) = (d', μ) := leave_app rfl (fun i o h => .inl h) hd hr
end
end Ab

set_option maxRecDepth 100000
set_option maxHeartbeats 4000000
namespace K01
open PySem L2 PyProof.Rows PySem.Spec Ab
def clsIds : List Nat := [0, 1, 2]
def isi_str : List (Ty × Bool) := [(.bt "str", true), (.bt "NoneType", false), (.bt "int", false), (.bt "list", false), (.bt "tuple", false), (.bt "bool", false)]
def isi_Pattern : List (Ty × Bool) := [(.own 2, true), (.bt "str", false), (.bt "NoneType", false), (.bt "int", false), (.bt "list", false), (.bt "tuple", false), (.bt "bool", false)]
def top (i : Nat) : Stmt := PySem.Challenge.pw_sidebytokens_k01_patterns_written.main.body.getD i (.Pass ⟨0, 0, 0, 0⟩)
abbrev s_is_letters : Stmt := top 10
abbrev s_is_quoted : Stmt := top 11
abbrev s_is_bracketed : Stmt := top 12
abbrev s_piece_at : Stmt := top 13
abbrev s_pieces_of : Stmt := top 14
abbrev s_shown : Stmt := top 15
abbrev s_Reader_init : Stmt := inClass (top 20) 0
abbrev s_Reader_is_here : Stmt := inClass (top 20) 1
abbrev s_Reader_begins_item : Stmt := inClass (top 20) 2
abbrev s_Reader_branches : Stmt := inClass (top 20) 3
abbrev s_Reader_branch : Stmt := inClass (top 20) 4
abbrev s_Reader_item : Stmt := inClass (top 20) 5
abbrev s_Reader_whole : Stmt := inClass (top 20) 6
abbrev s_Places_init : Stmt := inClass (top 21) 0
abbrev s_Places_add : Stmt := inClass (top 21) 1
abbrev s_Places_link : Stmt := inClass (top 21) 2
abbrev s_Places_lay : Stmt := inClass (top 21) 3
abbrev s_Places_chained : Stmt := inClass (top 21) 4
abbrev s_Pattern_init : Stmt := inClass (top 23) 0
abbrev s_Pattern_len : Stmt := inClass (top 23) 1
abbrev s_Pattern_str : Stmt := inClass (top 23) 2
abbrev s_Pattern_eq : Stmt := inClass (top 23) 3
abbrev s_l_bag : Stmt := top 25
abbrev s_l_take : Stmt := top 26
abbrev s_l_of : Stmt := top 27
abbrev s_l_letters : Stmt := top 28
abbrev s_l_item : Stmt := top 29
abbrev s_l_branches : Stmt := top 30
abbrev s_l_pieces : Stmt := top 31
abbrev s_l_written : Stmt := top 32
abbrev s_l_spaced : Stmt := top 33
abbrev s_l_places : Stmt := top 34
abbrev s_l_right : Stmt := top 35
abbrev s_l_by_hand : Stmt := top 36
abbrev s_law : Stmt := top 37
noncomputable def m_is_letters : SM :=
    (sRet (eCB false gAll (aCons (eLc false (iSrc (eVar 0)) (.nm 1) [1] mYes (eN false (gIn false) (eVar 1) (eC (.str [97, 98, 99, 100, 101, 102, 103, 104, 105, 106, 107, 108, 109, 110, 111, 112, 113, 114, 115, 116, 117, 118, 119, 120, 121, 122, 65, 66, 67, 68, 69, 70, 71, 72, 73, 74, 75, 76, 77, 78, 79, 80, 81, 82, 83, 84, 85, 86, 87, 88, 89, 90, 48, 49, 50, 51, 52, 53, 54, 55, 56, 57, 33, 35, 36, 38, 39, 40, 41, 42, 43, 44, 45, 46, 47, 58, 59, 60, 61, 62, 63, 64, 94, 95, 123, 124, 125, 126])))) aNil)))
noncomputable def m_is_quoted (g_is_letters : Fn) : SM :=
    (sRet (vAnd (eChain (fun x y μ => (gLe x y μ).map (fin false μ)) (fun x y μ => (gLe x y μ).map (fin false μ)) (eC (.int 1)) (eCB false gLen (aCons (eVar 0) aNil)) (eC (.int 6))) (eCall g_is_letters (aCons (eVar 0) aNil))))
noncomputable def m_is_bracketed (g_is_letters : Fn) : SM :=
    (sRet (vAnd (eChain (fun x y μ => (gLe x y μ).map (fin false μ)) (fun x y μ => (gLe x y μ).map (fin false μ)) (eC (.int 1)) (eCB false gLen (aCons (eVar 0) aNil)) (eC (.int 8))) (vAnd (eCall g_is_letters (aCons (eVar 0) aNil)) (eN false (gEq false) (eCB false gListS (aCons (eVar 0) aNil)) (eSrt (eVar 0))))))
noncomputable def m_piece_at (g_is_quoted g_is_bracketed : Fn) : SM :=
    (sSeq (sIf (mB (eN false (gIn false) (eOp gIx (eVar 0) (eVar 1)) (eC (.str [40, 41, 124, 42, 43, 63])))) (sRet (eOp gIx (eVar 0) (eVar 1))) sNext)
    (sSeq (sIf (mB (eN false (gIn true) (eOp gIx (eVar 0) (eVar 1)) (eTup (aCons (eC (.str [34])) (aCons (eC (.str [91])) aNil))))) (sRet (eC (.str []))) sNext)
    (sSeq (sAsg (eDct [([34], [34]), ([91], [93])] (eOp gIx (eVar 0) (eVar 1))) (sSet 2))
    (sSeq (sAsg (eMe isSt gPart (eSl false (eVar 0) (oSome (eN false gAdd (eVar 1) (eC (.int 1)))) oNone) (bnd (eVar 2) fun x => ret [x])) (gTp 3 (gsCons (sSet 3) (gsCons (sSet 4) (gsCons (sSet 5) gsNil)))))
    (sSeq (sAsg (eIf (mB (eN false (gEq false) (eVar 2) (eC (.str [34])))) (eCall g_is_quoted (aCons (eVar 3) aNil)) (eCall g_is_bracketed (aCons (eVar 3) aNil))) (sSet 6))
    (sRet (eIf (bAnd (mB (eN false (gEq true) (eVar 4) (eC (.str [])))) (mB (eVar 6))) (eN false gAdd (eN false gAdd (eOp gIx (eVar 0) (eVar 1)) (eVar 3)) (eVar 2)) (eC (.str [])))))))))
noncomputable def m_pieces_of (g_piece_at : Fn) : SM :=
    (sSeq (sPar 1 2 (aCons (eLstC aNil) (aCons (eC (.int 0)) aNil)))
    (sSeq (sWhile (mB (eN false gLt (eVar 2) (eCB false gLen (aCons (eVar 0) aNil)))) (sSeq (sIf (mB (eN false (gEq false) (eOp gIx (eVar 0) (eVar 2)) (eC (.str [32])))) (sSeq (sAug 2 fPlus (eC (.int 1)))
    sCnt) sNext)
    (sSeq (sAsg (eCall g_piece_at (aCons (eVar 0) (aCons (eVar 2) aNil))) (sSet 3))
    (sSeq (sExpr (eMe isLs gAppend (eVar 1) (aCons (eVar 3) aNil)))
    (sSeq (sIf (mB (eN false (gEq false) (eVar 3) (eC (.str [])))) (sRet (eVar 1)) sNext)
    (sAug 2 fPlus (eCB false gLen (aCons (eVar 3) aNil))))))) wfuel)
    (sRet (eVar 1))))
noncomputable def m_shown : SM :=
    (sSeq (sAsg (eTup (aCons (eC (.str [])) (aCons (eC (.str [40])) aNil))) (gTp 2 (gsCons (sSet 1) (gsCons (sSet 2) gsNil))))
    (sSeq (sFor (iSrc (eVar 0)) (sSet 3) (sSeq (sIf (bAnd (mB (eN false (gEq true) (eVar 2) (eC (.str [40])))) (mB (eN false (gIn true) (eVar 3) (eTup (aCons (eC (.str [41])) (aCons (eC (.str [42])) (aCons (eC (.str [43])) (aCons (eC (.str [63])) aNil)))))))) (sAug 1 fPlus (eC (.str [32]))) sNext)
    (sSeq (sAug 1 fPlus (eVar 3))
    (sAsg (eVar 3) (sSet 2)))))
    (sRet (eVar 1))))
noncomputable def m_Reader_init : SM :=
    (sSeq (sFld [(0, 0)] (eVar 0) (eVar 1))
    (sFld [(0, 1)] (eVar 0) (eC (.int 0))))
noncomputable def m_Reader_is_here : SM :=
    (sRet (vAnd (eN false gLt (eFld [(0, 1)] (eVar 0)) (eCB false gLen (aCons (eFld [(0, 0)] (eVar 0)) aNil))) (eN false (gIn false) (eOp gIx (eFld [(0, 0)] (eVar 0)) (eFld [(0, 1)] (eVar 0))) (eVar 1))))
noncomputable def m_Reader_begins_item : SM :=
    (sRet (vAnd (eN false gLt (eFld [(0, 1)] (eVar 0)) (eCB false gLen (aCons (eFld [(0, 0)] (eVar 0)) aNil))) (eN false (gIn false) (eSl false (eOp gIx (eFld [(0, 0)] (eVar 0)) (eFld [(0, 1)] (eVar 0))) oNone (oSome (eC (.int 1)))) (eTup (aCons (eC (.str [34])) (aCons (eC (.str [91])) (aCons (eC (.str [40])) aNil)))))))
noncomputable def m_Reader_branches (g_Reader_branch g_Reader_is_here : Fn) : SM :=
    (sSeq (sAsg (eLstC (aCons (eMeth 0 g_Reader_branch (eVar 0) (aCons (eVar 1) aNil)) aNil)) (sSet 2))
    (sSeq (sWhile (mB (eMeth 0 g_Reader_is_here (eVar 0) (aCons (eC (.str [124])) aNil))) (sSeq (sFldA [(0, 1)] fPlusI (eVar 0) (eC (.int 1)))
    (sExpr (eMe isLs gAppend (eVar 2) (aCons (eMeth 0 g_Reader_branch (eVar 0) (aCons (eVar 1) aNil)) aNil)))) wfuel)
    (sRet (eTup (aCons (eC (.str [111, 114])) (aCons (eFrz (eVar 2)) aNil))))))
noncomputable def m_Reader_branch (g_Reader_item g_Reader_begins_item : Fn) : SM :=
    (sSeq (sAsg (eLstC (aCons (eMeth 0 g_Reader_item (eVar 0) (aCons (eVar 1) aNil)) aNil)) (sSet 2))
    (sSeq (sWhile (mB (eMeth 0 g_Reader_begins_item (eVar 0) aNil)) (sExpr (eMe isLs gAppend (eVar 2) (aCons (eMeth 0 g_Reader_item (eVar 0) (aCons (eVar 1) aNil)) aNil))) wfuel)
    (sRet (eTup (aCons (eC (.str [97, 108, 108])) (aCons (eFrz (eVar 2)) aNil))))))
noncomputable def m_Reader_item (g_Reader_begins_item g_Reader_is_here g_Reader_branches : Fn) : SM :=
    (sSeq (sIf (bOr (bNot (mB (eMeth 0 g_Reader_begins_item (eVar 0) aNil))) (bAnd (mB (eMeth 0 g_Reader_is_here (eVar 0) (aCons (eC (.str [40])) aNil))) (mB (eN false (gEq false) (eVar 1) (eC (.int 4)))))) sNo sNext)
    (sSeq (sAsg (eOp gIx (eFld [(0, 0)] (eVar 0)) (eFld [(0, 1)] (eVar 0))) (sSet 2))
    (sSeq (sFldA [(0, 1)] fPlusI (eVar 0) (eC (.int 1)))
    (sSeq (sIf (mB (eN false (gEq false) (eVar 2) (eC (.str [40])))) (sSeq (sAsg (eMeth 0 g_Reader_branches (eVar 0) (aCons (eN false gAdd (eVar 1) (eC (.int 1))) aNil)) (sSet 3))
    (sSeq (sIf (bNot (mB (eMeth 0 g_Reader_is_here (eVar 0) (aCons (eC (.str [41])) aNil)))) sNo sNext)
    (sFldA [(0, 1)] fPlusI (eVar 0) (eC (.int 1))))) (sIf (mB (eN false (gEq false) (eOp gIx (eVar 2) (eC (.int 0))) (eC (.str [91])))) (sAsg (eTup (aCons (eC (.str [111, 110, 101])) (aCons (eLstF (aCons (eSl false (eVar 2) (oSome (eC (.int 1))) (oSome (eNeg (eC (.int 1))))) aNil)) aNil))) (sSet 3)) (sAsg (eTup (aCons (eC (.str [97, 108, 108])) (aCons (eLc false (iSrc (eSl false (eVar 2) (oSome (eC (.int 1))) (oSome (eNeg (eC (.int 1)))))) (.nm 4) [4] mYes (eTup (aCons (eC (.str [111, 110, 101])) (aCons (eLstF (aCons (eVar 4) aNil)) aNil)))) aNil))) (sSet 3))))
    (sSeq (sIf (mB (eMethS 0 g_Reader_is_here (eVar 0) (eC (.tup (([[42], [43], [63]] : List (List Nat)).map .str))))) (sSeq (sAsg (eTup (aCons (eOp gIx (eFld [(0, 0)] (eVar 0)) (eFld [(0, 1)] (eVar 0))) (aCons (eLstF (aCons (eVar 3) aNil)) aNil))) (sSet 3))
    (sFldA [(0, 1)] fPlusI (eVar 0) (eC (.int 1)))) sNext)
    (sRet (eVar 3)))))))
noncomputable def m_Reader_whole (g_Reader_branches : Fn) : SM :=
    (sSeq (sAsg (eMeth 0 g_Reader_branches (eVar 0) (aCons (eC (.int 0)) aNil)) (sSet 1))
    (sSeq (sIf (mB (eN false gLt (eFld [(0, 1)] (eVar 0)) (eCB false gLen (aCons (eFld [(0, 0)] (eVar 0)) aNil)))) sNo sNext)
    (sRet (eVar 1))))
noncomputable def m_Places_init : SM :=
    (sSeq (sFld [(1, 0)] (eVar 0) (eLstC (aCons (eC (.str [])) aNil)))
    (sFld [(1, 1)] (eVar 0) (eLstC (aCons (eC (.int 0)) aNil))))
noncomputable def m_Places_add : SM :=
    (sSeq (sExpr (eMe isLs gAppend (eFld [(1, 0)] (eVar 0)) (aCons (eVar 1) aNil)))
    (sSeq (sExpr (eMe isLs gAppend (eFld [(1, 1)] (eVar 0)) (aCons (eC (.int 0)) aNil)))
    (sRet (eN false gShl (eC (.int 1)) (eN false gSub (eCB false gLen (aCons (eFld [(1, 0)] (eVar 0)) aNil)) (eC (.int 1)))))))
noncomputable def m_Places_link : SM :=
    (sFor (iRng1' (aCons (eCB false gLen (aCons (eFld [(1, 1)] (eVar 0)) aNil)) aNil)) (sSet 3) (sIf (tru (eN false gBand (eN false gShr (eVar 1) (eVar 3)) (eC (.int 1)))) (sAugS fBor (eFld [(1, 1)] (eVar 0)) (eVar 3) (eVar 2)) sNext))
noncomputable def m_Places_lay (g_Places_add g_Places_lay g_Places_chained g_Places_link : Fn) : SM :=
    (sSeq (sAsg (eVar 1) (gTp 2 (gsCons (sSet 2) (gsCons (sSet 3) gsNil))))
    (sSeq (sIf (mB (eN false (gEq false) (eVar 2) (eC (.str [111, 110, 101])))) (sSeq (sAsg (eMeth 1 g_Places_add (eVar 0) (aCons (eOp gIx (eVar 3) (eC (.int 0))) aNil)) (sSet 4))
    (sRet (eTup (aCons (eC (.bl false)) (aCons (eVar 4) (aCons (eVar 4) aNil)))))) sNext)
    (sSeq (sAsg (eLc false (iSrc (eVar 3)) (.nm 11) [11] mYes (eMeth 1 g_Places_lay (eVar 0) (aCons (eVar 11) aNil))) (sSet 5))
    (sSeq (sIf (mB (eN false (gEq false) (eVar 2) (eC (.str [111, 114])))) (sSeq (sAsg (eTup (aCons (eC (.int 0)) (aCons (eC (.int 0)) aNil))) (gTp 2 (gsCons (sSet 6) (gsCons (sSet 7) gsNil))))
    (sSeq (sFor (iSrc (eVar 5)) (gTp 3 (gsCons (sSet 8) (gsCons (sSet 9) (gsCons (sSet 10) gsNil)))) (sPar 6 7 (aCons (eN false gBor (eVar 6) (eVar 9)) (aCons (eN false gBor (eVar 7) (eVar 10)) aNil))))
    (sRet (eTup (aCons (eCB false gAny (aCons (eLc false (iSrc (eVar 5)) (.tp [8, 9, 10]) [8, 9, 10] mYes (eVar 8)) aNil)) (aCons (eVar 6) (aCons (eVar 7) aNil))))))) sNext)
    (sSeq (sIf (mB (eN false (gEq false) (eVar 2) (eC (.str [97, 108, 108])))) (sRet (eMeth 1 g_Places_chained (eVar 0) (aCons (eVar 5) aNil))) sNext)
    (sSeq (sAsg (eOp gIx (eVar 5) (eC (.int 0))) (gTp 3 (gsCons (sSet 8) (gsCons (sSet 6) (gsCons (sSet 7) gsNil)))))
    (sSeq (sIf (mB (eN false (gIn false) (eVar 2) (eTup (aCons (eC (.str [42])) (aCons (eC (.str [43])) aNil))))) (sExpr (eMeth 1 g_Places_link (eVar 0) (aCons (eVar 7) (aCons (eVar 6) aNil)))) sNext)
    (sRet (eTup (aCons (vOr (eVar 8) (eN false (gIn false) (eVar 2) (eTup (aCons (eC (.str [42])) (aCons (eC (.str [63])) aNil))))) (aCons (eVar 6) (aCons (eVar 7) aNil))))))))))))
noncomputable def m_Places_chained (g_Places_link : Fn) : SM :=
    (sSeq (sAsg (eTup (aCons (eC (.bl true)) (aCons (eC (.int 0)) (aCons (eC (.int 0)) aNil)))) (gTp 3 (gsCons (sSet 2) (gsCons (sSet 3) (gsCons (sSet 4) gsNil)))))
    (sSeq (sFor (iSrc (eVar 1)) (gTp 3 (gsCons (sSet 5) (gsCons (sSet 6) (gsCons (sSet 7) gsNil)))) (sSeq (sExpr (eMeth 1 g_Places_link (eVar 0) (aCons (eVar 4) (aCons (eVar 6) aNil))))
    (sSeq (sAsg (eIf (mB (eVar 2)) (eN false gBor (eVar 3) (eVar 6)) (eVar 3)) (sSet 3))
    (sSeq (sAsg (eIf (mB (eVar 5)) (eN false gBor (eVar 4) (eVar 7)) (eVar 7)) (sSet 4))
    (sAsg (vAnd (eVar 2) (eVar 5)) (sSet 2))))))
    (sRet (eTup (aCons (eVar 2) (aCons (eVar 3) (aCons (eVar 4) aNil)))))))
noncomputable def m_Pattern_init (g_pieces_of g_Reader_whole g_Reader_init g_Places_init g_Places_lay g_Pattern_len g_Places_link g_shown : Fn) : SM :=
    (sSeq (sIf (bNot (mB (eIsi clsIds isi_str (eVar 1)))) sNo sNext)
    (sSeq (sFld [(2, 0)] (eVar 0) (eCall g_pieces_of (aCons (eVar 1) aNil)))
    (sSeq (sFld [(2, 1)] (eVar 0) (eMeth 0 g_Reader_whole (eMake 0 g_Reader_init (aCons (eFld [(2, 0)] (eVar 0)) aNil)) aNil))
    (sSeq (sFld [(2, 2)] (eVar 0) (eMake 1 g_Places_init aNil))
    (sSeq (sAsg (eMeth 1 g_Places_lay (eFld [(2, 2)] (eVar 0)) (aCons (eFld [(2, 1)] (eVar 0)) aNil)) (gTp 3 (gsCons (gFldT [(2, 3)] (eVar 0)) (gsCons (sSet 2) (gsCons (gFldT [(2, 4)] (eVar 0)) gsNil)))))
    (sSeq (sIf (mB (eN false gGt (eCS (gOne 2 g_Pattern_len natP) (aCons (eVar 0) aNil)) (eC (.int 10)))) sNo sNext)
    (sSeq (sExpr (eMeth 1 g_Places_link (eFld [(2, 2)] (eVar 0)) (aCons (eC (.int 1)) (aCons (eVar 2) aNil))))
    (sFld [(2, 5)] (eVar 0) (eCall g_shown (aCons (eFld [(2, 0)] (eVar 0)) aNil))))))))))
noncomputable def m_Pattern_len : SM :=
    (sRet (eCB false gLen (aCons (eSl false (eFld [(1, 0)] (eFld [(2, 2)] (eVar 0))) (oSome (eC (.int 1))) oNone) aNil)))
noncomputable def m_Pattern_str : SM :=
    (sRet (eFmt (eFld [(2, 5)] (eVar 0))))
noncomputable def m_Pattern_eq : SM :=
    (sRet (vAnd (eIsi clsIds isi_Pattern (eVar 1)) (eN false (gEq false) (eFld [(2, 0)] (eVar 0)) (eFld [(2, 0)] (eVar 1)))))
noncomputable def m_l_bag : SM :=
    (sSeq (sAsg (eIf (mB (eN false gLt (eVar 1) (eCB false gLen (aCons (eVar 0) aNil)))) (eOp gIx (eVar 0) (eVar 1)) (eC (.int 0))) (sSet 2))
    (sSeq (sAsg (eIf (mB (eN false gGe (eCB false gAbs (aCons (eVar 2) aNil)) (eN false gPow (eC (.int 10)) (eC (.int 18))))) (eCB false gAbs (aCons (eVar 2) aNil)) (eC (.int 0))) (sSet 3))
    (sRet (eLstC (aCons (eVar 3) (aCons (eN false gAdd (eN false gAdd (eN false gMul (eN false gMod (eCB false gInt (aCons (eVar 2) aNil)) (eC (.int 2305843009213693951))) (eC (.int 3))) (eN false gMul (eC (.int 8171)) (eVar 1))) (eC (.int 5003))) (aCons (eC (.int 0)) aNil)))))))
noncomputable def m_l_take : SM :=
    (sSeq (sIf (mB (eN false gGt (eOp gIx (eVar 0) (eC (.int 0))) (eC (.int 0)))) (sSeq (sAsg (eN false gMod (eCB false gInt (aCons (eOp gIx (eVar 0) (eC (.int 0))) aNil)) (eVar 1)) (sSet 2))
    (sSeq (sSub (eN false gFdiv (eOp gIx (eVar 0) (eC (.int 0))) (eVar 1)) (eVar 0) (eC (.int 0)))
    (sRet (eVar 2)))) sNext)
    (sSeq (sSub (eN false gAdd (eOp gIx (eVar 0) (eC (.int 2))) (eC (.int 1))) (eVar 0) (eC (.int 2)))
    (sSeq (sAsg (eN false gMod (eCB false gInt (aCons (eN false gPow (eN false gAdd (eOp gIx (eVar 0) (eC (.int 1))) (eN false gMul (eC (.int 1000081)) (eOp gIx (eVar 0) (eC (.int 2))))) (eC (.int 3))) aNil)) (eC (.int 2305843009213693921))) (sSet 3))
    (sSeq (sAsg (eN false gMod (eCB false gInt (aCons (eN false gPow (eN false gAdd (eVar 3) (eN false gMul (eC (.int 32452867)) (eOp gIx (eVar 0) (eC (.int 2))))) (eC (.int 2))) aNil)) (eC (.int 2305843009213693951))) (sSet 3))
    (sRet (eN false gMod (eCB false gInt (aCons (eN false gFdiv (eVar 3) (eC (.int 2048))) aNil)) (eVar 1)))))))
noncomputable def m_l_of (g_l_take : Fn) : SM :=
    (sRet (eOp gIx (eVar 1) (eCall g_l_take (aCons (eVar 0) (aCons (eCB false gLen (aCons (eVar 1) aNil)) aNil)))))
noncomputable def m_l_letters (g_l_take : Fn) : SM :=
    (sSeq (sPar 2 3 (aCons (eCB true gListS (aCons (eC (.str [97, 98, 99, 120, 121, 122, 65, 90, 48, 49, 57, 46, 44, 58, 59, 43, 45, 42, 47, 60, 61, 62, 38, 124, 40, 41, 63, 33, 35, 36, 39, 64, 94, 95, 123, 125, 126])) aNil)) (aCons (eLstC aNil) aNil)))
    (sSeq (sFor (iRng1' (aCons (eVar 1) aNil)) (sSet 4) (sExpr (eMe isLs gAppend (eVar 3) (aCons (eMe isLs gPopAt (eVar 2) (aCons (eCall g_l_take (aCons (eVar 0) (aCons (eCB false gLen (aCons (eVar 2) aNil)) aNil))) aNil)) aNil))))
    (sRet (eCB false gSortS (aCons (eVar 3) aNil)))))
noncomputable def m_l_item (g_l_of g_l_take g_l_branches : Fn) : SM :=
    (sSeq (sPar 4 5 (aCons (eCall g_l_take (aCons (eVar 0) (aCons (eC (.int 4)) aNil))) (aCons (eCall g_l_of (aCons (eVar 0) (aCons (eLstF (aCons (eC (.str [])) (aCons (eC (.str [])) (aCons (eC (.str [])) (aCons (eC (.str [])) (aCons (eC (.str [42])) (aCons (eC (.str [43])) (aCons (eC (.str [63])) aNil)))))))) aNil))) aNil)))
    (sSeq (sIf (bAnd (mB (eN false (gEq false) (eVar 4) (eC (.int 3)))) (bAnd (mB (eN false gGt (eVar 2) (eC (.int 0)))) (mB (eN false gGt (eOp gIx (eVar 3) (eC (.int 0))) (eC (.int 1)))))) (sRet (eTup (aCons (eC (.str [103, 114, 111, 117, 112])) (aCons (eCall g_l_branches (aCons (eVar 0) (aCons (eVar 1) (aCons (eN false gSub (eVar 2) (eC (.int 1))) (aCons (eVar 3) aNil))))) (aCons (eVar 5) aNil))))) sNext)
    (sSeq (sIf (mB (eN false (gEq false) (eVar 4) (eC (.int 0)))) (sSeq (sAsg (eCB true gList (aCons (eVar 1) aNil)) (sSet 6))
    (sSeq (sFor (iRng1' (aCons (eN false gSub (eN false gSub (eCB false gLen (aCons (eVar 1) aNil)) (eC (.int 1))) (eCall g_l_take (aCons (eVar 0) (aCons (eCB false gMin (aCons (eC (.int 4)) (aCons (eCB false gLen (aCons (eVar 1) aNil)) aNil))) aNil)))) aNil)) (sSet 7) (sExpr (eMe isLs gPopAt (eVar 6) (aCons (eCall g_l_take (aCons (eVar 0) (aCons (eCB false gLen (aCons (eVar 6) aNil)) aNil))) aNil))))
    (sSeq (sSub (eN false gSub (eOp gIx (eVar 3) (eC (.int 0))) (eC (.int 1))) (eVar 3) (eC (.int 0)))
    (sRet (eTup (aCons (eC (.str [115, 101, 116])) (aCons (eMe isSt gJoin (eC (.str [])) (bnd (eVar 6) fun x => ret [x])) (aCons (eVar 5) aNil)))))))) sNext)
    (sSeq (sAsg (eN false gAdd (eC (.int 1)) (eCall g_l_take (aCons (eVar 0) (aCons (eCB false gMin (aCons (eC (.int 3)) (aCons (eOp gIx (eVar 3) (eC (.int 0))) aNil))) aNil)))) (sSet 8))
    (sSeq (sSub (eN false gSub (eOp gIx (eVar 3) (eC (.int 0))) (eVar 8)) (eVar 3) (eC (.int 0)))
    (sRet (eTup (aCons (eC (.str [116, 101, 120, 116])) (aCons (eMe isSt gJoin (eC (.str [])) (bnd (eLc false (iRng1' (aCons (eVar 8) aNil)) (.nm 7) [7] mYes (eCall g_l_of (aCons (eVar 0) (aCons (eVar 1) aNil)))) fun x => ret [x])) (aCons (eVar 5) aNil))))))))))
noncomputable def m_l_branches (g_l_take g_l_item : Fn) : SM :=
    (sSeq (sAsg (eLstC aNil) (sSet 4))
    (sSeq (sWhile (bOr (mB (eN false (gEq false) (eVar 4) (eLstF aNil))) (bAnd (mB (eN false gGt (eOp gIx (eVar 3) (eC (.int 0))) (eC (.int 0)))) (bAnd (mB (eN false gLt (eCB false gLen (aCons (eVar 4) aNil)) (eC (.int 3)))) (mB (eN false (gEq false) (eCall g_l_take (aCons (eVar 0) (aCons (eC (.int 3)) aNil))) (eC (.int 0))))))) (sSeq (sAsg (eLstC (aCons (eCall g_l_item (aCons (eVar 0) (aCons (eVar 1) (aCons (eVar 2) (aCons (eVar 3) aNil))))) aNil)) (sSet 5))
    (sSeq (sWhile (bAnd (mB (eN false gGt (eOp gIx (eVar 3) (eC (.int 0))) (eC (.int 0)))) (bAnd (mB (eN false gLt (eCB false gLen (aCons (eVar 5) aNil)) (eC (.int 4)))) (mB (eN false gGt (eCall g_l_take (aCons (eVar 0) (aCons (eC (.int 5)) aNil))) (eC (.int 1)))))) (sExpr (eMe isLs gAppend (eVar 5) (aCons (eCall g_l_item (aCons (eVar 0) (aCons (eVar 1) (aCons (eVar 2) (aCons (eVar 3) aNil))))) aNil))) wfuel)
    (sExpr (eMe isLs gAppend (eVar 4) (aCons (eFrz (eVar 5)) aNil))))) wfuel)
    (sRet (eVar 4))))
noncomputable def m_l_pieces (g_l_pieces : Fn) : SM :=
    (sSeq (sAsg (eLstC aNil) (sSet 1))
    (sSeq (sFor (iSrc (eVar 0)) (sSet 2) (sSeq (sFor (iSrc (eVar 2)) (gTp 3 (gsCons (sSet 3) (gsCons (sSet 4) (gsCons (sSet 5) gsNil)))) (sSeq (sIf (mB (eN false (gEq false) (eVar 3) (eC (.str [103, 114, 111, 117, 112])))) (sAsg (eN true gAdd (eN false gAdd (eN false gAdd (eVar 1) (eLstF (aCons (eC (.str [40])) aNil))) (eCall g_l_pieces (aCons (eVar 4) aNil))) (eLstF (aCons (eC (.str [41])) aNil))) (sSet 1)) (sExpr (eMe isLs gAppend (eVar 1) (aCons (eIf (mB (eN false (gEq false) (eVar 3) (eC (.str [116, 101, 120, 116])))) (eN false gAdd (eN false gAdd (eC (.str [34])) (eVar 4)) (eC (.str [34]))) (eN false gAdd (eN false gAdd (eC (.str [91])) (eVar 4)) (eC (.str [93])))) aNil))))
    (sAsg (eN true gAdd (eVar 1) (eN false gMul (eLstF (aCons (eVar 5) aNil)) (eCB false gLen (aCons (eVar 5) aNil)))) (sSet 1))))
    (sExpr (eMe isLs gAppend (eVar 1) (aCons (eC (.str [124])) aNil)))))
    (sRet (eSl false (eVar 1) oNone (oSome (eNeg (eC (.int 1))))))))
noncomputable def m_l_written (g_l_written : Fn) : SM :=
    (sSeq (sAsg (eLstC aNil) (sSet 1))
    (sSeq (sFor (iSrc (eVar 0)) (sSet 2) (sSeq (sAsg (eLstC aNil) (sSet 3))
    (sSeq (sFor (iSrc (eVar 2)) (gTp 3 (gsCons (sSet 4) (gsCons (sSet 5) (gsCons (sSet 6) gsNil)))) (sSeq (sAsg (eIf (mB (eN false (gEq false) (eVar 4) (eC (.str [116, 101, 120, 116])))) (eN false gAdd (eN false gAdd (eC (.str [34])) (eVar 5)) (eC (.str [34]))) (eIf (mB (eN false (gEq false) (eVar 4) (eC (.str [115, 101, 116])))) (eN false gAdd (eN false gAdd (eC (.str [91])) (eVar 5)) (eC (.str [93]))) (eC (.str [])))) (sSet 7))
    (sExpr (eMe isLs gAppend (eVar 3) (aCons (eN false gAdd (eIf (mB (eN false (gEq true) (eVar 4) (eC (.str [103, 114, 111, 117, 112])))) (eVar 7) (eN false gAdd (eN false gAdd (eC (.str [40])) (eCall g_l_written (aCons (eVar 5) aNil))) (eC (.str [41])))) (eVar 6)) aNil)))))
    (sExpr (eMe isLs gAppend (eVar 1) (aCons (eMe isSt gJoin (eC (.str [32])) (bnd (eVar 3) fun x => ret [x])) aNil))))))
    (sRet (eMe isSt gJoin (eC (.str [32, 124, 32])) (bnd (eVar 1) fun x => ret [x])))))
noncomputable def m_l_spaced (g_l_of g_l_take : Fn) : SM :=
    (sSeq (sAsg (eC (.str [])) (sSet 2))
    (sSeq (sFor (iSrc (eVar 1)) (sSet 3) (sAsg (eN false gAdd (eN false gAdd (eVar 2) (eN false gMul (eC (.str [32])) (eCall g_l_of (aCons (eVar 0) (aCons (eLstF (aCons (eC (.int 0)) (aCons (eC (.int 0)) (aCons (eC (.int 1)) (aCons (eC (.int 2)) aNil))))) aNil))))) (eVar 3)) (sSet 2)))
    (sRet (eN false gAdd (eVar 2) (eN false gMul (eC (.str [32])) (eCall g_l_take (aCons (eVar 0) (aCons (eC (.int 2)) aNil))))))))
noncomputable def m_l_places (g_l_places : Fn) : SM :=
    (sSeq (sAsg (eC (.int 0)) (sSet 1))
    (sSeq (sFor (iSrc (eVar 0)) (sSet 2) (sFor (iSrc (eVar 2)) (gTp 3 (gsCons (sSet 3) (gsCons (sSet 4) (gsCons (sSet 5) gsNil)))) (sIf (mB (eN false (gEq false) (eVar 3) (eC (.str [103, 114, 111, 117, 112])))) (sAsg (eN false gAdd (eVar 1) (eCall g_l_places (aCons (eVar 4) aNil))) (sSet 1)) (sAsg (eN false gAdd (eVar 1) (eIf (mB (eN false (gEq false) (eVar 3) (eC (.str [116, 101, 120, 116])))) (eCB false gLen (aCons (eVar 4) aNil)) (eC (.int 1)))) (sSet 1)))))
    (sRet (eVar 1))))
noncomputable def m_l_right (g_l_branches g_l_take g_l_letters g_l_written g_l_pieces g_Pattern_init g_l_spaced g_Pattern_str g_Pattern_len g_l_places g_Pattern_eq : Fn) : SM :=
    (sSeq (sAsg (eCall g_l_branches (aCons (eVar 0) (aCons (eCall g_l_letters (aCons (eVar 0) (aCons (eN false gAdd (eC (.int 1)) (eCall g_l_take (aCons (eVar 0) (aCons (eC (.int 8)) aNil)))) aNil))) (aCons (eC (.int 3)) (aCons (eLstC (aCons (eN false gAdd (eC (.int 1)) (eCall g_l_take (aCons (eVar 0) (aCons (eC (.int 9)) aNil)))) aNil)) aNil))))) (sSet 1))
    (sSeq (sPar 2 3 (aCons (eCall g_l_pieces (aCons (eVar 1) aNil)) (aCons (eCall g_l_written (aCons (eVar 1) aNil)) aNil)))
    (sSeq (sAsg (eTup (aCons (eMake 2 g_Pattern_init (aCons (eCall g_l_spaced (aCons (eVar 0) (aCons (eVar 2) aNil))) aNil)) (aCons (eMake 2 g_Pattern_init (aCons (eVar 3) aNil)) aNil))) (gTp 2 (gsCons (sSet 4) (gsCons (sSet 5) gsNil))))
    (sSeq (sIf (bOr (mB (eN false (gEq true) (eCS (gOne 2 g_Pattern_str strP) (aCons (eVar 4) aNil)) (eVar 3))) (bOr (mB (eN false (gEq true) (eCS (gOne 2 g_Pattern_str strP) (aCons (eVar 5) aNil)) (eVar 3))) (bOr (mB (eN false (gEq true) (eCS (gOne 2 g_Pattern_len natP) (aCons (eVar 4) aNil)) (eCall g_l_places (aCons (eVar 1) aNil)))) (mB (eN false (gEq true) (eCS (gOne 2 g_Pattern_len natP) (aCons (eVar 5) aNil)) (eCS (gOne 2 g_Pattern_len natP) (aCons (eVar 4) aNil))))))) (sRet (eC (.bl false))) sNext)
    (sSeq (sIf (bOr (bNot (mB (eOp (fCmpO clsIds 2 g_Pattern_eq false) (eVar 4) (eVar 5)))) (bOr (mB (eOp (fCmpO clsIds 2 g_Pattern_eq true) (eVar 4) (eVar 5))) (bOr (mB (eOp (fCmpO clsIds 2 g_Pattern_eq true) (eMake 2 g_Pattern_init (aCons (eMe isSt gJoin (eC (.str [])) (bnd (eVar 2) fun x => ret [x])) aNil)) (eVar 4))) (mB (eN false (gEq true) (eCS (gOne 2 g_Pattern_str strP) (aCons (eMake 2 g_Pattern_init (aCons (eCS (gOne 2 g_Pattern_str strP) (aCons (eVar 4) aNil)) aNil)) aNil)) (eVar 3)))))) (sRet (eC (.bl false))) sNext)
    (sSeq (sAsg (eLstF (aCons (eN false gAdd (eN false gAdd (eC (.str [40])) (eVar 3)) (eC (.str [41]))) (aCons (eN false gAdd (eN false gAdd (eVar 3) (eC (.str [32, 124, 32]))) (eVar 3)) (aCons (eN false gAdd (eN false gAdd (eN false gAdd (eVar 3) (eC (.str [32, 34]))) (eC (.str [101]))) (eC (.str [34]))) aNil)))) (sSet 6))
    (sSeq (sFor (iSrc (eN false gAdd (eSl false (eVar 6) oNone (oSome (eC (.int 1)))) (eN false gMul (eSl false (eVar 6) (oSome (eC (.int 1))) oNone) (eCB false gInt (aCons (eN false gLe (eCS (gOne 2 g_Pattern_len natP) (aCons (eVar 4) aNil)) (eC (.int 5))) aNil))))) (sSet 7) (sIf (bOr (mB (eOp (fCmpO clsIds 2 g_Pattern_eq false) (eMake 2 g_Pattern_init (aCons (eVar 7) aNil)) (eVar 4))) (bOr (bNot (mB (eOp (fCmpO clsIds 2 g_Pattern_eq true) (eMake 2 g_Pattern_init (aCons (eVar 7) aNil)) (eVar 4)))) (mB (eN false (gEq true) (eCS (gOne 2 g_Pattern_str strP) (aCons (eMake 2 g_Pattern_init (aCons (eVar 7) aNil)) aNil)) (eVar 7))))) (sRet (eC (.bl false))) sNext))
    (sRet (vNot (eCB false gAny (aCons (eLc false (iSrc (eTup (aCons (eVar 3) (aCons (eVar 2) (aCons (eC .non) (aCons (eC (.int 0)) (aCons (eCS (gOne 2 g_Pattern_len natP) (aCons (eVar 4) aNil)) aNil))))))) (.nm 8) [8] mYes (eOp (fCmpO clsIds 2 g_Pattern_eq false) (eVar 4) (eVar 8))) aNil)))))))))))
noncomputable def m_l_by_hand (g_Pattern_init g_Pattern_str g_Pattern_len : Fn) : SM :=
    (sSeq (sAsg (eLstC (aCons (eTup (aCons (eC (.str [40, 34, 97, 34, 124, 91, 98, 99, 93, 43, 41, 34, 100, 34, 63])) (aCons (eC (.str [40, 34, 97, 34, 32, 124, 32, 91, 98, 99, 93, 43, 41, 32, 34, 100, 34, 63])) (aCons (eC (.int 3)) aNil)))) (aCons (eTup (aCons (eC (.str [40, 32, 40, 32, 40, 32, 40, 32, 34, 97, 34, 32, 41, 32, 41, 32, 41, 32, 41])) (aCons (eC (.str [40, 40, 40, 40, 34, 97, 34, 41, 41, 41, 41])) (aCons (eC (.int 1)) aNil)))) aNil))) (sSet 0))
    (sSeq (sExpr (eMe isLs gAppend (eVar 0) (aCons (eTup (aCons (eC (.str [32, 34, 40, 41, 42, 43, 63, 124, 34, 32])) (aCons (eC (.str [34, 40, 41, 42, 43, 63, 124, 34])) (aCons (eC (.int 6)) aNil)))) aNil)))
    (sSeq (sAsg (eN true gAdd (eVar 0) (eLstF (aCons (eTup (aCons (eC (.str [91, 33, 38, 124, 93, 42, 34, 97, 98, 99, 100, 101, 102, 34])) (aCons (eC (.str [91, 33, 38, 124, 93, 42, 32, 34, 97, 98, 99, 100, 101, 102, 34])) (aCons (eC (.int 7)) aNil)))) (aCons (eTup (aCons (eC (.str [34, 97, 34, 34, 98, 34, 32, 124, 32, 91, 120, 93, 32, 91, 121, 122, 93])) (aCons (eC (.str [34, 97, 34, 32, 34, 98, 34, 32, 124, 32, 91, 120, 93, 32, 91, 121, 122, 93])) (aCons (eC (.int 4)) aNil)))) aNil)))) (sSet 0))
    (sRet (eCB false gAll (aCons (eLc false (iSrc (eVar 0)) (.tp [1, 2, 3]) [1, 2, 3] mYes (vAnd (eN false (gEq false) (eCS (gOne 2 g_Pattern_str strP) (aCons (eMake 2 g_Pattern_init (aCons (eVar 1) aNil)) aNil)) (eVar 2)) (eN false (gEq false) (eCS (gOne 2 g_Pattern_len natP) (aCons (eMake 2 g_Pattern_init (aCons (eVar 1) aNil)) aNil)) (eVar 3)))) aNil))))))
noncomputable def m_law (g_l_bag g_l_right g_l_by_hand : Fn) : SM :=
    (sSeq (sFor (iRng1' (aCons (eCB false gMax (aCons (eC (.int 1)) (aCons (eCB false gMin (aCons (eC (.int 5)) (aCons (eCB false gLen (aCons (eVar 0) aNil)) aNil))) aNil))) aNil)) (sSet 1) (sSeq (sAsg (eCall g_l_bag (aCons (eVar 0) (aCons (eVar 1) aNil))) (sSet 2))
    (sFor (iRng1' (aCons (eC (.int 3)) aNil)) (sSet 3) (sIf (bNot (mB (eCall g_l_right (aCons (eVar 2) aNil)))) (sRet (eC (.bl false))) sNext))))
    (sRet (eCall g_l_by_hand aNil)))
structure Ads where
  a_is_letters : Addr
  a_is_quoted : Addr
  a_is_bracketed : Addr
  a_piece_at : Addr
  a_pieces_of : Addr
  a_shown : Addr
  a_Reader_init : Addr
  a_Reader_is_here : Addr
  a_Reader_begins_item : Addr
  a_Reader_branches : Addr
  a_Reader_branch : Addr
  a_Reader_item : Addr
  a_Reader_whole : Addr
  a_Places_init : Addr
  a_Places_add : Addr
  a_Places_link : Addr
  a_Places_lay : Addr
  a_Places_chained : Addr
  a_Pattern_init : Addr
  a_Pattern_len : Addr
  a_Pattern_str : Addr
  a_Pattern_eq : Addr
  a_l_bag : Addr
  a_l_take : Addr
  a_l_of : Addr
  a_l_letters : Addr
  a_l_item : Addr
  a_l_branches : Addr
  a_l_pieces : Addr
  a_l_written : Addr
  a_l_spaced : Addr
  a_l_places : Addr
  a_l_right : Addr
  a_l_by_hand : Addr
  a_law : Addr
structure Txt (p : Par) (mg : Str → Option Value) (a : Ads) : Prop where
  b_abs : mg "abs" = none
  b_all : mg "all" = none
  b_any : mg "any" = none
  b_int : mg "int" = none
  b_isinstance : mg "isinstance" = none
  b_len : mg "len" = none
  b_list : mg "list" = none
  b_max : mg "max" = none
  b_min : mg "min" = none
  b_range : mg "range" = none
  b_set : mg "set" = none
  b_sorted : mg "sorted" = none
  b_str : mg "str" = none
  g_LETTERS : ∃ t, mg "LETTERS" = some (.str (mkS [97, 98, 99, 100, 101, 102, 103, 104, 105, 106, 107, 108, 109, 110, 111, 112, 113, 114, 115, 116, 117, 118, 119, 120, 121, 122, 65, 66, 67, 68, 69, 70, 71, 72, 73, 74, 75, 76, 77, 78, 79, 80, 81, 82, 83, 84, 85, 86, 87, 88, 89, 90, 48, 49, 50, 51, 52, 53, 54, 55, 56, 57, 33, 35, 36, 38, 39, 40, 41, 42, 43, 44, 45, 46, 47, 58, 59, 60, 61, 62, 63, 64, 94, 95, 123, 124, 125, 126]) t)
  g_MOST_BRACKETED : ∃ t, mg "MOST_BRACKETED" = some (.int 8 t)
  g_MOST_DEPTH : ∃ t, mg "MOST_DEPTH" = some (.int 4 t)
  g_MOST_PLACES : ∃ t, mg "MOST_PLACES" = some (.int 10 t)
  g_MOST_QUOTED : ∃ t, mg "MOST_QUOTED" = some (.int 6 t)
  g_REPEATS : KTup p.K mg "REPEATS" [[42], [43], [63]]
  g_SIGNS : ∃ t, mg "SIGNS" = some (.str (mkS [40, 41, 124, 42, 43, 63]) t)
  f_Pattern_is_empty : FldOk p 2 "is_empty" 3
  f_Pattern_last : FldOk p 2 "last" 4
  f_Pattern_pieces : FldOk p 2 "pieces" 0
  f_Pattern_places : FldOk p 2 "places" 2
  f_Pattern_tree : FldOk p 2 "tree" 1
  f_Pattern_written : FldOk p 2 "written" 5
  f_Places_follow : FldOk p 1 "follow" 1
  f_Places_letters : FldOk p 1 "letters" 0
  f_Reader_at : FldOk p 0 "at" 1
  f_Reader_pieces : FldOk p 0 "pieces" 0
  t_Places_add : MthOk p 1 "add" a.a_Places_add
  t_Places_chained : MthOk p 1 "chained" a.a_Places_chained
  t_Places_lay : MthOk p 1 "lay" a.a_Places_lay
  t_Places_link : MthOk p 1 "link" a.a_Places_link
  t_Reader_begins_item : MthOk p 0 "begins_item" a.a_Reader_begins_item
  t_Reader_branch : MthOk p 0 "branch" a.a_Reader_branch
  t_Reader_branches : MthOk p 0 "branches" a.a_Reader_branches
  t_Reader_is_here : MthOk p 0 "is_here" a.a_Reader_is_here
  t_Reader_item : MthOk p 0 "item" a.a_Reader_item
  t_Reader_whole : MthOk p 0 "whole" a.a_Reader_whole
  bm_Reader_is_here : BMeth p.K (p.ca 0) "is_here" a.a_Reader_is_here
  m_Pattern : mg "Pattern" = some (.ref (p.ca 2))
  m_Places : mg "Places" = some (.ref (p.ca 1))
  m_Reader : mg "Reader" = some (.ref (p.ca 0))
  mk_Pattern : Mk p.K (p.ca 2) a.a_Pattern_init
  mk_Places : Mk p.K (p.ca 1) a.a_Places_init
  mk_Reader : Mk p.K (p.ca 0) a.a_Reader_init
  m_l_bag : mg "_law_bag" = some (.ref a.a_l_bag)
  k_l_bag : PySem.W.keepIn p.K (.ref a.a_l_bag) = true
  m_l_branches : mg "_law_branches" = some (.ref a.a_l_branches)
  k_l_branches : PySem.W.keepIn p.K (.ref a.a_l_branches) = true
  m_l_by_hand : mg "_law_by_hand" = some (.ref a.a_l_by_hand)
  k_l_by_hand : PySem.W.keepIn p.K (.ref a.a_l_by_hand) = true
  m_l_item : mg "_law_item" = some (.ref a.a_l_item)
  k_l_item : PySem.W.keepIn p.K (.ref a.a_l_item) = true
  m_l_letters : mg "_law_letters" = some (.ref a.a_l_letters)
  k_l_letters : PySem.W.keepIn p.K (.ref a.a_l_letters) = true
  m_l_of : mg "_law_of" = some (.ref a.a_l_of)
  k_l_of : PySem.W.keepIn p.K (.ref a.a_l_of) = true
  m_l_pieces : mg "_law_pieces" = some (.ref a.a_l_pieces)
  k_l_pieces : PySem.W.keepIn p.K (.ref a.a_l_pieces) = true
  m_l_places : mg "_law_places" = some (.ref a.a_l_places)
  k_l_places : PySem.W.keepIn p.K (.ref a.a_l_places) = true
  m_l_right : mg "_law_right" = some (.ref a.a_l_right)
  k_l_right : PySem.W.keepIn p.K (.ref a.a_l_right) = true
  m_l_spaced : mg "_law_spaced" = some (.ref a.a_l_spaced)
  k_l_spaced : PySem.W.keepIn p.K (.ref a.a_l_spaced) = true
  m_l_take : mg "_law_take" = some (.ref a.a_l_take)
  k_l_take : PySem.W.keepIn p.K (.ref a.a_l_take) = true
  m_l_written : mg "_law_written" = some (.ref a.a_l_written)
  k_l_written : PySem.W.keepIn p.K (.ref a.a_l_written) = true
  m_is_bracketed : mg "is_bracketed" = some (.ref a.a_is_bracketed)
  k_is_bracketed : PySem.W.keepIn p.K (.ref a.a_is_bracketed) = true
  m_is_letters : mg "is_letters" = some (.ref a.a_is_letters)
  k_is_letters : PySem.W.keepIn p.K (.ref a.a_is_letters) = true
  m_is_quoted : mg "is_quoted" = some (.ref a.a_is_quoted)
  k_is_quoted : PySem.W.keepIn p.K (.ref a.a_is_quoted) = true
  m_piece_at : mg "piece_at" = some (.ref a.a_piece_at)
  k_piece_at : PySem.W.keepIn p.K (.ref a.a_piece_at) = true
  m_pieces_of : mg "pieces_of" = some (.ref a.a_pieces_of)
  k_pieces_of : PySem.W.keepIn p.K (.ref a.a_pieces_of) = true
  m_shown : mg "shown" = some (.ref a.a_shown)
  k_shown : PySem.W.keepIn p.K (.ref a.a_shown) = true
  q_Pattern : EqOk p clsIds 2 a.a_Pattern_eq
  o_Pattern_len : OwnOk p 2 "__len__" a.a_Pattern_len
  o_Pattern_str : OwnOk p 2 "__str__" a.a_Pattern_str
  isi : ∀ c ∈ clsIds, InsTy p c
  i_Pattern : TbOk p (.ref (p.ca 2)) isi_Pattern
  i_str : TbOk p (.type "str") isi_str
section
variable {P : Program} {w : World} {p : Par} {mg : Str → Option Value} {base : Heap} {a : Ads} {k0 k : Nat} {f : Addr}
theorem sc_is_letters : FnScope ["text", "sign"] ["text"] (defScope s_is_letters) := ⟨rfl, rfl, rfl, by decide +kernel, rfl, by decide +kernel, by decide +kernel⟩
theorem ok_is_letters (hk : k0 + 3 ≤ k) (T : Txt p mg a) : BodyOk P w p mg base "is_letters" s_is_letters f ["text", "sign"] k m_is_letters := by
  intro cdv A outer s H E hr tk hp
  exact (ass_one (as_ret (ae_all1 rfl T.b_all (aa_cons (ae_lc (own := [("sign", 1)]) (c := (.nm 1)) false rfl sc_is_letters.nd (ai_val (av 0)) (blkOk_by (N := ["text", "sign"]) (sc := defScope s_is_letters) (by decide +kernel)) (by decide) (fun _ _ _ _ _ => (pg_name (i := 1) sc_is_letters.nd rfl (.inl rfl))) (fun _ _ _ _ _ => (ats_nil rfl)) (fun _ _ _ _ _ => (ae_in (av 1) (ae_globS' rfl rfl T.g_LETTERS (by decide))))) (aa_nil rfl)))))
theorem sc_is_quoted : FnScope ["inner"] ["inner"] (defScope s_is_quoted) := ⟨rfl, rfl, rfl, by decide +kernel, rfl, by decide +kernel, by decide +kernel⟩
theorem ok_is_quoted (hk : k0 + 3 ≤ k) (T : Txt p mg a) {g_is_letters : Fn} (H_is_letters : FnA P w p mg base k0 a.a_is_letters g_is_letters) : BodyOk P w p mg base "is_quoted" s_is_quoted f ["inner"] k (m_is_quoted g_is_letters) := by
  intro cdv A outer s H E hr tk hp
  exact (ass_one (as_ret (ae_and (ae_le2 (ae_int rfl) (ae_len T.b_len (aa_cons (av 0) (aa_nil rfl))) (ae_globI' rfl rfl T.g_MOST_QUOTED)) (ae_one (ae_call tk H_is_letters (hr.mono (by omega)) rfl T.m_is_letters T.k_is_letters (aa_cons (av 0) (aa_nil rfl)))))))
theorem sc_is_bracketed : FnScope ["inner"] ["inner"] (defScope s_is_bracketed) := ⟨rfl, rfl, rfl, by decide +kernel, rfl, by decide +kernel, by decide +kernel⟩
theorem ok_is_bracketed (hk : k0 + 3 ≤ k) (T : Txt p mg a) {g_is_letters : Fn} (H_is_letters : FnA P w p mg base k0 a.a_is_letters g_is_letters) : BodyOk P w p mg base "is_bracketed" s_is_bracketed f ["inner"] k (m_is_bracketed g_is_letters) := by
  intro cdv A outer s H E hr tk hp
  exact (ass_one (as_ret (ae_and (ae_le2 (ae_int rfl) (ae_len T.b_len (aa_cons (av 0) (aa_nil rfl))) (ae_globI' rfl rfl T.g_MOST_BRACKETED)) (ae_and (ae_call tk H_is_letters (hr.mono (by omega)) rfl T.m_is_letters T.k_is_letters (aa_cons (av 0) (aa_nil rfl))) (ae_one (ae_eq hr (ae_listS false rfl rfl T.b_list (aa_cons (av 0) (aa_nil rfl))) (ae_srt rfl rfl T.b_sorted rfl T.b_set (av 0))))))))
theorem sc_piece_at : FnScope ["text", "at", "end", "inner", "mark", "rest", "is_good"] ["text", "at"] (defScope s_piece_at) := ⟨rfl, rfl, rfl, by decide +kernel, rfl, by decide +kernel, by decide +kernel⟩
theorem ok_piece_at (hk : k0 + 3 ≤ k) (T : Txt p mg a) {g_is_quoted : Fn} (H_is_quoted : FnA P w p mg base k0 a.a_is_quoted g_is_quoted) {g_is_bracketed : Fn} (H_is_bracketed : FnA P w p mg base k0 a.a_is_bracketed g_is_bracketed) : BodyOk P w p mg base "piece_at" s_piece_at f ["text", "at", "end", "inner", "mark", "rest", "is_good"] k (m_piece_at g_is_quoted g_is_bracketed) := by
  intro cdv A outer s H E hr tk hp
  exact (ass_cons (as_if (at_in (ae_ix (av 0) (av 1)) (ae_globS' rfl rfl T.g_SIGNS (by decide))) (ass_one (as_ret (ae_ix (av 0) (av 1)))) (ass_nil rfl))
    (ass_cons (as_if (at_nin (ae_ix (av 0) (av 1)) (ae_tup (aa_cons (ae_str rfl) (aa_cons (ae_str rfl) (aa_nil rfl))))) (ass_one (as_ret (ae_str rfl))) (ass_nil rfl))
    (ass_cons (as_set (i := 2) sc_piece_at.nd rfl (.inl rfl) (ae_dct (l := [([34], [34]), ([91], [93])]) (hu_of hr) (pps_cons pe_str pe_str (pps_cons pe_str pe_str pps_nil)) (fun σ H Q h => h) (by decide) dct_look (ae_ix (av 0) (av 1)) (fun _ _ => rfl) rfl rfl (by simp) (by decide)))
    (ass_cons (as_asg (ae_part (ae_sl false (av 0) (ao_some (ae_add false (av 1) (ae_int rfl))) (ao_none rfl)) (av 2)) (AG.w0 (on_tup (on_cons (on_set 3) (on_cons (on_set 4) (on_cons (on_set 5) on_nil)))) (ag_tup rfl (ags_cons (ag_name rfl (pg_name (i := 3) sc_piece_at.nd rfl (.inl rfl))) (ags_cons (ag_name rfl (pg_name (i := 4) sc_piece_at.nd rfl (.inl rfl))) (ags_cons (ag_name rfl (pg_name (i := 5) sc_piece_at.nd rfl (.inl rfl))) (ags_nil rfl)))))) rfl rfl rfl (on_tup (on_cons (on_set 3) (on_cons (on_set 4) (on_cons (on_set 5) on_nil)))))
    (ass_cons (as_set (i := 6) sc_piece_at.nd rfl (.inl rfl) (ae_if (at_eq hr (av 2) (ae_str rfl)) (ae_call tk H_is_quoted (hr.mono (by omega)) rfl T.m_is_quoted T.k_is_quoted (aa_cons (av 3) (aa_nil rfl))) (ae_call tk H_is_bracketed (hr.mono (by omega)) rfl T.m_is_bracketed T.k_is_bracketed (aa_cons (av 3) (aa_nil rfl)))))
    (ass_one (as_ret (ae_if (AWt.at (aw_and (at_ne hr (av 4) (ae_str rfl)) (aw_and1 (at_val (av 6))))) (ae_add false (ae_add false (ae_ix (av 0) (av 1)) (av 3)) (av 2)) (ae_str rfl)))))))))
theorem sc_pieces_of : FnScope ["text", "found", "at", "piece"] ["text"] (defScope s_pieces_of) := ⟨rfl, rfl, rfl, by decide +kernel, rfl, by decide +kernel, by decide +kernel⟩
theorem ok_pieces_of (hk : k0 + 3 ≤ k) (T : Txt p mg a) {g_piece_at : Fn} (H_piece_at : FnA P w p mg base k0 a.a_piece_at g_piece_at) : BodyOk P w p mg base "pieces_of" s_pieces_of f ["text", "found", "at", "piece"] k (m_pieces_of g_piece_at) := by
  intro cdv A outer s H E hr tk hp
  exact (ass_cons (as_par (i := 1) (j := 2) rfl sc_pieces_of.nd rfl rfl (by decide) rfl rfl (aa_cons (ae_lstC (aa_nil rfl)) (aa_cons (ae_int rfl) (aa_nil rfl))) rfl)
    (ass_cons (as_while wfuel hp (at_lt (av 2) (ae_len T.b_len (aa_cons (av 0) (aa_nil rfl)))) (ass_cons (as_if (at_eq hr (ae_ix (av 0) (av 2)) (ae_str rfl)) (ass_cons (as_plus (i := 2) sc_pieces_of.nd rfl (.inl rfl) (ae_int rfl))
    (ass_one (as_cont rfl))) (ass_nil rfl))
    (ass_cons (as_set (i := 3) sc_pieces_of.nd rfl (.inl rfl) (ae_call tk H_piece_at (hr.mono (by omega)) rfl T.m_piece_at T.k_piece_at (aa_cons (av 0) (aa_cons (av 2) (aa_nil rfl)))))
    (ass_cons (as_expr (ae_append (av 1) (aa_cons (av 3) (aa_nil rfl))))
    (ass_cons (as_if (at_eq hr (av 3) (ae_str rfl)) (ass_one (as_ret (av 1))) (ass_nil rfl))
    (ass_one (as_plus (i := 2) sc_pieces_of.nd rfl (.inl rfl) (ae_len T.b_len (aa_cons (av 3) (aa_nil rfl))))))))))
    (ass_one (as_ret (av 1)))))
theorem sc_shown : FnScope ["pieces", "found", "last", "piece"] ["pieces"] (defScope s_shown) := ⟨rfl, rfl, rfl, by decide +kernel, rfl, by decide +kernel, by decide +kernel⟩
theorem ok_shown (hk : k0 + 3 ≤ k) (T : Txt p mg a) : BodyOk P w p mg base "shown" s_shown f ["pieces", "found", "last", "piece"] k m_shown := by
  intro cdv A outer s H E hr tk hp
  exact (ass_cons (as_asg (ae_tup (aa_cons (ae_str rfl) (aa_cons (ae_str rfl) (aa_nil rfl)))) (AG.w0 (on_tup (on_cons (on_set 1) (on_cons (on_set 2) on_nil))) (ag_tup rfl (ags_cons (ag_name rfl (pg_name (i := 1) sc_shown.nd rfl (.inl rfl))) (ags_cons (ag_name rfl (pg_name (i := 2) sc_shown.nd rfl (.inl rfl))) (ags_nil rfl))))) rfl rfl rfl (on_tup (on_cons (on_set 1) (on_cons (on_set 2) on_nil))))
    (ass_cons (as_for hp rfl (ai_val (av 0)) (ag_name rfl (pg_name (i := 3) sc_shown.nd rfl (.inl rfl))) (on_set 3) (ass_cons (as_if (AWt.at (aw_and (at_ne hr (av 2) (ae_str rfl)) (aw_and1 (at_nin (av 3) (ae_tup (aa_cons (ae_str rfl) (aa_cons (ae_str rfl) (aa_cons (ae_str rfl) (aa_cons (ae_str rfl) (aa_nil rfl)))))))))) (ass_one (as_plus (i := 1) sc_shown.nd rfl (.inl rfl) (ae_str rfl))) (ass_nil rfl))
    (ass_cons (as_plus (i := 1) sc_shown.nd rfl (.inl rfl) (av 3))
    (ass_one (as_set (i := 2) sc_shown.nd rfl (.inl rfl) (av 3))))))
    (ass_one (as_ret (av 1)))))
theorem sc_Reader_init : FnScope ["self", "pieces"] ["self", "pieces"] (defScope s_Reader_init) := ⟨rfl, rfl, rfl, by decide +kernel, rfl, by decide +kernel, by decide +kernel⟩
theorem ok_Reader_init (hk : k0 + 3 ≤ k) (T : Txt p mg a) : BodyOk P w p mg base "Reader.__init__" s_Reader_init f ["self", "pieces"] k m_Reader_init := by
  intro cdv A outer s H E hr tk hp
  exact (ass_cons (as_fld (f1 T.f_Reader_pieces) (av 0) (av 1))
    (ass_one (as_fld (f1 T.f_Reader_at) (av 0) (ae_int rfl))))
theorem sc_Reader_is_here : FnScope ["self", "signs"] ["self", "signs"] (defScope s_Reader_is_here) := ⟨rfl, rfl, rfl, by decide +kernel, rfl, by decide +kernel, by decide +kernel⟩
theorem ok_Reader_is_here (hk : k0 + 3 ≤ k) (T : Txt p mg a) : BodyOk P w p mg base "Reader.is_here" s_Reader_is_here f ["self", "signs"] k m_Reader_is_here := by
  intro cdv A outer s H E hr tk hp
  exact (ass_one (as_ret (ae_and (ae_lt (ae_fld (f1 T.f_Reader_at) (av 0)) (ae_len T.b_len (aa_cons (ae_fld (f1 T.f_Reader_pieces) (av 0)) (aa_nil rfl)))) (ae_one (ae_in (ae_ix (ae_fld (f1 T.f_Reader_pieces) (av 0)) (ae_fld (f1 T.f_Reader_at) (av 0))) (av 1))))))
theorem sc_Reader_begins_item : FnScope ["self"] ["self"] (defScope s_Reader_begins_item) := ⟨rfl, rfl, rfl, by decide +kernel, rfl, by decide +kernel, by decide +kernel⟩
theorem ok_Reader_begins_item (hk : k0 + 3 ≤ k) (T : Txt p mg a) : BodyOk P w p mg base "Reader.begins_item" s_Reader_begins_item f ["self"] k m_Reader_begins_item := by
  intro cdv A outer s H E hr tk hp
  exact (ass_one (as_ret (ae_and (ae_lt (ae_fld (f1 T.f_Reader_at) (av 0)) (ae_len T.b_len (aa_cons (ae_fld (f1 T.f_Reader_pieces) (av 0)) (aa_nil rfl)))) (ae_one (ae_in (ae_sl false (ae_ix (ae_fld (f1 T.f_Reader_pieces) (av 0)) (ae_fld (f1 T.f_Reader_at) (av 0))) (ao_none rfl) (ao_some (ae_int rfl))) (ae_tup (aa_cons (ae_str rfl) (aa_cons (ae_str rfl) (aa_cons (ae_str rfl) (aa_nil rfl))))))))))
theorem sc_Reader_branches : FnScope ["self", "depth", "found"] ["self", "depth"] (defScope s_Reader_branches) := ⟨rfl, rfl, rfl, by decide +kernel, rfl, by decide +kernel, by decide +kernel⟩
theorem ok_Reader_branches (hk : k0 + 3 ≤ k) (T : Txt p mg a) {g_Reader_branch : Fn} (H_Reader_branch : FnA P w p mg base k0 a.a_Reader_branch g_Reader_branch) {g_Reader_is_here : Fn} (H_Reader_is_here : FnA P w p mg base k0 a.a_Reader_is_here g_Reader_is_here) : BodyOk P w p mg base "Reader.branches" s_Reader_branches f ["self", "depth", "found"] k (m_Reader_branches g_Reader_branch g_Reader_is_here) := by
  intro cdv A outer s H E hr tk hp
  exact (ass_cons (as_set (i := 2) sc_Reader_branches.nd rfl (.inl rfl) (ae_lstC (aa_cons (ae_meth tk T.t_Reader_branch H_Reader_branch (hr.mono (by omega)) (av 0) (aa_cons (av 1) (aa_nil rfl))) (aa_nil rfl))))
    (ass_cons (as_while wfuel hp (at_val (ae_meth tk T.t_Reader_is_here H_Reader_is_here (hr.mono (by omega)) (av 0) (aa_cons (ae_str rfl) (aa_nil rfl)))) (ass_cons (as_fldPlus T.f_Reader_at (av 0) (ae_int rfl))
    (ass_one (as_expr (ae_append (av 2) (aa_cons (ae_meth tk T.t_Reader_branch H_Reader_branch (hr.mono (by omega)) (av 0) (aa_cons (av 1) (aa_nil rfl))) (aa_nil rfl)))))))
    (ass_one (as_ret (ae_tup (aa_cons (ae_str rfl) (aa_cons (ae_frz (av 2)) (aa_nil rfl))))))))
theorem sc_Reader_branch : FnScope ["self", "depth", "found"] ["self", "depth"] (defScope s_Reader_branch) := ⟨rfl, rfl, rfl, by decide +kernel, rfl, by decide +kernel, by decide +kernel⟩
theorem ok_Reader_branch (hk : k0 + 3 ≤ k) (T : Txt p mg a) {g_Reader_item : Fn} (H_Reader_item : FnA P w p mg base k0 a.a_Reader_item g_Reader_item) {g_Reader_begins_item : Fn} (H_Reader_begins_item : FnA P w p mg base k0 a.a_Reader_begins_item g_Reader_begins_item) : BodyOk P w p mg base "Reader.branch" s_Reader_branch f ["self", "depth", "found"] k (m_Reader_branch g_Reader_item g_Reader_begins_item) := by
  intro cdv A outer s H E hr tk hp
  exact (ass_cons (as_set (i := 2) sc_Reader_branch.nd rfl (.inl rfl) (ae_lstC (aa_cons (ae_meth tk T.t_Reader_item H_Reader_item (hr.mono (by omega)) (av 0) (aa_cons (av 1) (aa_nil rfl))) (aa_nil rfl))))
    (ass_cons (as_while wfuel hp (at_val (ae_meth0 tk T.t_Reader_begins_item H_Reader_begins_item (hr.mono (by omega)) (av 0))) (ass_one (as_expr (ae_append (av 2) (aa_cons (ae_meth tk T.t_Reader_item H_Reader_item (hr.mono (by omega)) (av 0) (aa_cons (av 1) (aa_nil rfl))) (aa_nil rfl))))))
    (ass_one (as_ret (ae_tup (aa_cons (ae_str rfl) (aa_cons (ae_frz (av 2)) (aa_nil rfl))))))))
theorem sc_Reader_item : FnScope ["self", "depth", "piece", "found", "letter"] ["self", "depth"] (defScope s_Reader_item) := ⟨rfl, rfl, rfl, by decide +kernel, rfl, by decide +kernel, by decide +kernel⟩
theorem ok_Reader_item (hk : k0 + 3 ≤ k) (T : Txt p mg a) {g_Reader_begins_item : Fn} (H_Reader_begins_item : FnA P w p mg base k0 a.a_Reader_begins_item g_Reader_begins_item) {g_Reader_is_here : Fn} (H_Reader_is_here : FnA P w p mg base k0 a.a_Reader_is_here g_Reader_is_here) {g_Reader_branches : Fn} (H_Reader_branches : FnA P w p mg base k0 a.a_Reader_branches g_Reader_branches) : BodyOk P w p mg base "Reader.item" s_Reader_item f ["self", "depth", "piece", "found", "letter"] k (m_Reader_item g_Reader_begins_item g_Reader_is_here g_Reader_branches) := by
  intro cdv A outer s H E hr tk hp
  exact (ass_cons (as_if (AWt.at (aw_or (at_not (at_val (ae_meth0 tk T.t_Reader_begins_item H_Reader_begins_item (hr.mono (by omega)) (av 0)))) (aw_or1 (AWt.at (aw_and (at_val (ae_meth tk T.t_Reader_is_here H_Reader_is_here (hr.mono (by omega)) (av 0) (aa_cons (ae_str rfl) (aa_nil rfl)))) (aw_and1 (at_eq hr (av 1) (ae_globI' rfl rfl T.g_MOST_DEPTH)))))))) (ass_one (as_no rfl)) (ass_nil rfl))
    (ass_cons (as_set (i := 2) sc_Reader_item.nd rfl (.inl rfl) (ae_ix (ae_fld (f1 T.f_Reader_pieces) (av 0)) (ae_fld (f1 T.f_Reader_at) (av 0))))
    (ass_cons (as_fldPlus T.f_Reader_at (av 0) (ae_int rfl))
    (ass_cons (as_if (at_eq hr (av 2) (ae_str rfl)) (ass_cons (as_set (i := 3) sc_Reader_item.nd rfl (.inl rfl) (ae_meth tk T.t_Reader_branches H_Reader_branches (hr.mono (by omega)) (av 0) (aa_cons (ae_add false (av 1) (ae_int rfl)) (aa_nil rfl))))
    (ass_cons (as_if (at_not (at_val (ae_meth tk T.t_Reader_is_here H_Reader_is_here (hr.mono (by omega)) (av 0) (aa_cons (ae_str rfl) (aa_nil rfl))))) (ass_one (as_no rfl)) (ass_nil rfl))
    (ass_one (as_fldPlus T.f_Reader_at (av 0) (ae_int rfl))))) (ass_one (as_if (at_eq hr (ae_ix (av 2) (ae_int rfl)) (ae_str rfl)) (ass_one (as_set (i := 3) sc_Reader_item.nd rfl (.inl rfl) (ae_tup (aa_cons (ae_str rfl) (aa_cons (ae_lstF (aa_cons (ae_sl false (av 2) (ao_some (ae_int rfl)) (ao_some (ae_neg (ae_int rfl)))) (aa_nil rfl))) (aa_nil rfl)))))) (ass_one (as_set (i := 3) sc_Reader_item.nd rfl (.inl rfl) (ae_tup (aa_cons (ae_str rfl) (aa_cons (ae_lc (own := [("letter", 4)]) (c := (.nm 4)) false rfl sc_Reader_item.nd (ai_val (ae_sl false (av 2) (ao_some (ae_int rfl)) (ao_some (ae_neg (ae_int rfl))))) (blkOk_by (N := ["self", "depth", "piece", "found", "letter"]) (sc := defScope s_Reader_item) (by decide +kernel)) (by decide) (fun _ _ _ _ _ => (pg_name (i := 4) sc_Reader_item.nd rfl (.inl rfl))) (fun _ _ _ _ _ => (ats_nil rfl)) (fun _ _ _ _ _ => (ae_tup (aa_cons (ae_str rfl) (aa_cons (ae_lstF (aa_cons (av 4) (aa_nil rfl))) (aa_nil rfl)))))) (aa_nil rfl)))))))))
    (ass_cons (as_if (at_val (ae_methS tk T.t_Reader_is_here T.bm_Reader_is_here H_Reader_is_here (hr.mono (by omega)) (av 0) (ae_globT' rfl rfl T.g_REPEATS (by decide)))) (ass_cons (as_set (i := 3) sc_Reader_item.nd rfl (.inl rfl) (ae_tup (aa_cons (ae_ix (ae_fld (f1 T.f_Reader_pieces) (av 0)) (ae_fld (f1 T.f_Reader_at) (av 0))) (aa_cons (ae_lstF (aa_cons (av 3) (aa_nil rfl))) (aa_nil rfl)))))
    (ass_one (as_fldPlus T.f_Reader_at (av 0) (ae_int rfl)))) (ass_nil rfl))
    (ass_one (as_ret (av 3))))))))
theorem sc_Reader_whole : FnScope ["self", "found"] ["self"] (defScope s_Reader_whole) := ⟨rfl, rfl, rfl, by decide +kernel, rfl, by decide +kernel, by decide +kernel⟩
theorem ok_Reader_whole (hk : k0 + 3 ≤ k) (T : Txt p mg a) {g_Reader_branches : Fn} (H_Reader_branches : FnA P w p mg base k0 a.a_Reader_branches g_Reader_branches) : BodyOk P w p mg base "Reader.whole" s_Reader_whole f ["self", "found"] k (m_Reader_whole g_Reader_branches) := by
  intro cdv A outer s H E hr tk hp
  exact (ass_cons (as_set (i := 1) sc_Reader_whole.nd rfl (.inl rfl) (ae_meth tk T.t_Reader_branches H_Reader_branches (hr.mono (by omega)) (av 0) (aa_cons (ae_int rfl) (aa_nil rfl))))
    (ass_cons (as_if (at_lt (ae_fld (f1 T.f_Reader_at) (av 0)) (ae_len T.b_len (aa_cons (ae_fld (f1 T.f_Reader_pieces) (av 0)) (aa_nil rfl)))) (ass_one (as_no rfl)) (ass_nil rfl))
    (ass_one (as_ret (av 1)))))
theorem sc_Places_init : FnScope ["self"] ["self"] (defScope s_Places_init) := ⟨rfl, rfl, rfl, by decide +kernel, rfl, by decide +kernel, by decide +kernel⟩
theorem ok_Places_init (hk : k0 + 3 ≤ k) (T : Txt p mg a) : BodyOk P w p mg base "Places.__init__" s_Places_init f ["self"] k m_Places_init := by
  intro cdv A outer s H E hr tk hp
  exact (ass_cons (as_fld (f1 T.f_Places_letters) (av 0) (ae_lstC (aa_cons (ae_str rfl) (aa_nil rfl))))
    (ass_one (as_fld (f1 T.f_Places_follow) (av 0) (ae_lstC (aa_cons (ae_int rfl) (aa_nil rfl))))))
theorem sc_Places_add : FnScope ["self", "letters"] ["self", "letters"] (defScope s_Places_add) := ⟨rfl, rfl, rfl, by decide +kernel, rfl, by decide +kernel, by decide +kernel⟩
theorem ok_Places_add (hk : k0 + 3 ≤ k) (T : Txt p mg a) : BodyOk P w p mg base "Places.add" s_Places_add f ["self", "letters"] k m_Places_add := by
  intro cdv A outer s H E hr tk hp
  exact (ass_cons (as_expr (ae_append (ae_fld (f1 T.f_Places_letters) (av 0)) (aa_cons (av 1) (aa_nil rfl))))
    (ass_cons (as_expr (ae_append (ae_fld (f1 T.f_Places_follow) (av 0)) (aa_cons (ae_int rfl) (aa_nil rfl))))
    (ass_one (as_ret (ae_shl (ae_int rfl) (ae_sub (ae_len T.b_len (aa_cons (ae_fld (f1 T.f_Places_letters) (av 0)) (aa_nil rfl))) (ae_int rfl)))))))
theorem sc_Places_link : FnScope ["self", "before", "behind", "at"] ["self", "before", "behind"] (defScope s_Places_link) := ⟨rfl, rfl, rfl, by decide +kernel, rfl, by decide +kernel, by decide +kernel⟩
theorem ok_Places_link (hk : k0 + 3 ≤ k) (T : Txt p mg a) : BodyOk P w p mg base "Places.link" s_Places_link f ["self", "before", "behind", "at"] k m_Places_link := by
  intro cdv A outer s H E hr tk hp
  exact (ass_one (as_for hp rfl (ai_rng1 rfl T.b_range (aa_cons (ae_len T.b_len (aa_cons (ae_fld (f1 T.f_Places_follow) (av 0)) (aa_nil rfl))) (aa_nil rfl))) (ag_name rfl (pg_name (i := 3) sc_Places_link.nd rfl (.inl rfl))) (on_set 3) (ass_one (as_if (at_tru (ae_band (ae_shr (av 1) (av 3)) (ae_int rfl))) (ass_one (as_subOr (ae_fld (f1 T.f_Places_follow) (av 0)) (av 3) (av 2))) (ass_nil rfl)))))
theorem sc_Places_lay : FnScope ["self", "tree", "sort", "parts", "mask", "laid", "first", "last", "is_empty", "begins", "ends", "part"] ["self", "tree"] (defScope s_Places_lay) := ⟨rfl, rfl, rfl, by decide +kernel, rfl, by decide +kernel, by decide +kernel⟩
theorem ok_Places_lay (hk : k0 + 3 ≤ k) (T : Txt p mg a) {g_Places_add : Fn} (H_Places_add : FnA P w p mg base k0 a.a_Places_add g_Places_add) {g_Places_lay : Fn} (H_Places_lay : FnA P w p mg base k0 a.a_Places_lay g_Places_lay) {g_Places_chained : Fn} (H_Places_chained : FnA P w p mg base k0 a.a_Places_chained g_Places_chained) {g_Places_link : Fn} (H_Places_link : FnA P w p mg base k0 a.a_Places_link g_Places_link) : BodyOk P w p mg base "Places.lay" s_Places_lay f ["self", "tree", "sort", "parts", "mask", "laid", "first", "last", "is_empty", "begins", "ends", "part"] k (m_Places_lay g_Places_add g_Places_lay g_Places_chained g_Places_link) := by
  intro cdv A outer s H E hr tk hp
  exact (ass_cons (as_asg (av 1) (AG.w0 (on_tup (on_cons (on_set 2) (on_cons (on_set 3) on_nil))) (ag_tup rfl (ags_cons (ag_name rfl (pg_name (i := 2) sc_Places_lay.nd rfl (.inl rfl))) (ags_cons (ag_name rfl (pg_name (i := 3) sc_Places_lay.nd rfl (.inl rfl))) (ags_nil rfl))))) rfl rfl rfl (on_tup (on_cons (on_set 2) (on_cons (on_set 3) on_nil))))
    (ass_cons (as_if (at_eq hr (av 2) (ae_str rfl)) (ass_cons (as_set (i := 4) sc_Places_lay.nd rfl (.inl rfl) (ae_meth tk T.t_Places_add H_Places_add (hr.mono (by omega)) (av 0) (aa_cons (ae_ix (av 3) (ae_int rfl)) (aa_nil rfl))))
    (ass_one (as_ret (ae_tup (aa_cons (ae_bl rfl) (aa_cons (av 4) (aa_cons (av 4) (aa_nil rfl)))))))) (ass_nil rfl))
    (ass_cons (as_setLc (i := 5) (own := [("part", 11)]) (c := (.nm 11)) false rfl sc_Places_lay.nd rfl rfl (sw_true rfl rfl rfl (by decide +kernel)) (ai_val (av 3)) (blkOk_by (N := ["self", "tree", "sort", "parts", "mask", "laid", "first", "last", "is_empty", "begins", "ends", "part"]) (sc := defScope s_Places_lay) (by decide +kernel)) (by decide) (fun _ _ _ _ _ => (pg_name (i := 11) sc_Places_lay.nd rfl (.inl rfl))) (fun _ _ _ _ _ => (ats_nil rfl)) (fun _ _ _ _ _ => (ae_meth tk0 T.t_Places_lay H_Places_lay (hr.mono (by omega)) (av 0) (aa_cons (av 11) (aa_nil rfl)))))
    (ass_cons (as_if (at_eq hr (av 2) (ae_str rfl)) (ass_cons (as_asg (ae_tup (aa_cons (ae_int rfl) (aa_cons (ae_int rfl) (aa_nil rfl)))) (AG.w0 (on_tup (on_cons (on_set 6) (on_cons (on_set 7) on_nil))) (ag_tup rfl (ags_cons (ag_name rfl (pg_name (i := 6) sc_Places_lay.nd rfl (.inl rfl))) (ags_cons (ag_name rfl (pg_name (i := 7) sc_Places_lay.nd rfl (.inl rfl))) (ags_nil rfl))))) rfl rfl rfl (on_tup (on_cons (on_set 6) (on_cons (on_set 7) on_nil))))
    (ass_cons (as_for hp rfl (ai_val (av 5)) (ag_tup rfl (ags_cons (ag_name rfl (pg_name (i := 8) sc_Places_lay.nd rfl (.inl rfl))) (ags_cons (ag_name rfl (pg_name (i := 9) sc_Places_lay.nd rfl (.inl rfl))) (ags_cons (ag_name rfl (pg_name (i := 10) sc_Places_lay.nd rfl (.inl rfl))) (ags_nil rfl))))) (on_tup (on_cons (on_set 8) (on_cons (on_set 9) (on_cons (on_set 10) on_nil)))) (ass_one (as_par (i := 6) (j := 7) rfl sc_Places_lay.nd rfl rfl (by decide) rfl rfl (aa_cons (ae_bor (av 6) (av 9)) (aa_cons (ae_bor (av 7) (av 10)) (aa_nil rfl))) rfl)))
    (ass_one (as_ret (ae_tup (aa_cons (ae_any1 rfl T.b_any (aa_cons (ae_lc (own := [("is_empty", 8), ("begins", 9), ("ends", 10)]) (c := (.tp [8, 9, 10])) false rfl sc_Places_lay.nd (ai_val (av 5)) (blkOk_by (N := ["self", "tree", "sort", "parts", "mask", "laid", "first", "last", "is_empty", "begins", "ends", "part"]) (sc := defScope s_Places_lay) (by decide +kernel)) (by decide) (fun _ _ _ _ _ => (pg_tup rfl (pgs_cons (pg_name (i := 8) sc_Places_lay.nd rfl (.inl rfl)) (pgs_cons (pg_name (i := 9) sc_Places_lay.nd rfl (.inl rfl)) (pgs_cons (pg_name (i := 10) sc_Places_lay.nd rfl (.inl rfl)) pgs_nil rfl) rfl) rfl) rfl rfl)) (fun _ _ _ _ _ => (ats_nil rfl)) (fun _ _ _ _ _ => (av 8))) (aa_nil rfl))) (aa_cons (av 6) (aa_cons (av 7) (aa_nil rfl))))))))) (ass_nil rfl))
    (ass_cons (as_if (at_eq hr (av 2) (ae_str rfl)) (ass_one (as_ret (ae_meth tk T.t_Places_chained H_Places_chained (hr.mono (by omega)) (av 0) (aa_cons (av 5) (aa_nil rfl))))) (ass_nil rfl))
    (ass_cons (as_asg (ae_ix (av 5) (ae_int rfl)) (AG.w0 (on_tup (on_cons (on_set 8) (on_cons (on_set 6) (on_cons (on_set 7) on_nil)))) (ag_tup rfl (ags_cons (ag_name rfl (pg_name (i := 8) sc_Places_lay.nd rfl (.inl rfl))) (ags_cons (ag_name rfl (pg_name (i := 6) sc_Places_lay.nd rfl (.inl rfl))) (ags_cons (ag_name rfl (pg_name (i := 7) sc_Places_lay.nd rfl (.inl rfl))) (ags_nil rfl)))))) rfl rfl rfl (on_tup (on_cons (on_set 8) (on_cons (on_set 6) (on_cons (on_set 7) on_nil)))))
    (ass_cons (as_if (at_in (av 2) (ae_tup (aa_cons (ae_str rfl) (aa_cons (ae_str rfl) (aa_nil rfl))))) (ass_one (as_expr (ae_meth tk T.t_Places_link H_Places_link (hr.mono (by omega)) (av 0) (aa_cons (av 7) (aa_cons (av 6) (aa_nil rfl)))))) (ass_nil rfl))
    (ass_one (as_ret (ae_tup (aa_cons (ae_or (av 8) (ae_one (ae_in (av 2) (ae_tup (aa_cons (ae_str rfl) (aa_cons (ae_str rfl) (aa_nil rfl))))))) (aa_cons (av 6) (aa_cons (av 7) (aa_nil rfl))))))))))))))
theorem sc_Places_chained : FnScope ["self", "laid", "is_empty", "first", "last", "may_lack", "begins", "ends"] ["self", "laid"] (defScope s_Places_chained) := ⟨rfl, rfl, rfl, by decide +kernel, rfl, by decide +kernel, by decide +kernel⟩
theorem ok_Places_chained (hk : k0 + 3 ≤ k) (T : Txt p mg a) {g_Places_link : Fn} (H_Places_link : FnA P w p mg base k0 a.a_Places_link g_Places_link) : BodyOk P w p mg base "Places.chained" s_Places_chained f ["self", "laid", "is_empty", "first", "last", "may_lack", "begins", "ends"] k (m_Places_chained g_Places_link) := by
  intro cdv A outer s H E hr tk hp
  exact (ass_cons (as_asg (ae_tup (aa_cons (ae_bl rfl) (aa_cons (ae_int rfl) (aa_cons (ae_int rfl) (aa_nil rfl))))) (AG.w0 (on_tup (on_cons (on_set 2) (on_cons (on_set 3) (on_cons (on_set 4) on_nil)))) (ag_tup rfl (ags_cons (ag_name rfl (pg_name (i := 2) sc_Places_chained.nd rfl (.inl rfl))) (ags_cons (ag_name rfl (pg_name (i := 3) sc_Places_chained.nd rfl (.inl rfl))) (ags_cons (ag_name rfl (pg_name (i := 4) sc_Places_chained.nd rfl (.inl rfl))) (ags_nil rfl)))))) rfl rfl rfl (on_tup (on_cons (on_set 2) (on_cons (on_set 3) (on_cons (on_set 4) on_nil)))))
    (ass_cons (as_for hp rfl (ai_val (av 1)) (ag_tup rfl (ags_cons (ag_name rfl (pg_name (i := 5) sc_Places_chained.nd rfl (.inl rfl))) (ags_cons (ag_name rfl (pg_name (i := 6) sc_Places_chained.nd rfl (.inl rfl))) (ags_cons (ag_name rfl (pg_name (i := 7) sc_Places_chained.nd rfl (.inl rfl))) (ags_nil rfl))))) (on_tup (on_cons (on_set 5) (on_cons (on_set 6) (on_cons (on_set 7) on_nil)))) (ass_cons (as_expr (ae_meth tk T.t_Places_link H_Places_link (hr.mono (by omega)) (av 0) (aa_cons (av 4) (aa_cons (av 6) (aa_nil rfl)))))
    (ass_cons (as_set (i := 3) sc_Places_chained.nd rfl (.inl rfl) (ae_if (at_val (av 2)) (ae_bor (av 3) (av 6)) (av 3)))
    (ass_cons (as_set (i := 4) sc_Places_chained.nd rfl (.inl rfl) (ae_if (at_val (av 5)) (ae_bor (av 4) (av 7)) (av 7)))
    (ass_one (as_set (i := 2) sc_Places_chained.nd rfl (.inl rfl) (ae_and (av 2) (ae_one (av 5)))))))))
    (ass_one (as_ret (ae_tup (aa_cons (av 2) (aa_cons (av 3) (aa_cons (av 4) (aa_nil rfl)))))))))
theorem sc_Pattern_init : FnScope ["self", "text", "first"] ["self", "text"] (defScope s_Pattern_init) := ⟨rfl, rfl, rfl, by decide +kernel, rfl, by decide +kernel, by decide +kernel⟩
theorem ok_Pattern_init (hk : k0 + 3 ≤ k) (T : Txt p mg a) {g_pieces_of : Fn} (H_pieces_of : FnA P w p mg base k0 a.a_pieces_of g_pieces_of) {g_Reader_whole : Fn} (H_Reader_whole : FnA P w p mg base k0 a.a_Reader_whole g_Reader_whole) {g_Reader_init : Fn} (H_Reader_init : FnA P w p mg base k0 a.a_Reader_init g_Reader_init) {g_Places_init : Fn} (H_Places_init : FnA P w p mg base k0 a.a_Places_init g_Places_init) {g_Places_lay : Fn} (H_Places_lay : FnA P w p mg base k0 a.a_Places_lay g_Places_lay) {g_Pattern_len : Fn} (H_Pattern_len : FnA P w p mg base k0 a.a_Pattern_len g_Pattern_len) {g_Places_link : Fn} (H_Places_link : FnA P w p mg base k0 a.a_Places_link g_Places_link) {g_shown : Fn} (H_shown : FnA P w p mg base k0 a.a_shown g_shown) : BodyOk P w p mg base "Pattern.__init__" s_Pattern_init f ["self", "text", "first"] k (m_Pattern_init g_pieces_of g_Reader_whole g_Reader_init g_Places_init g_Places_lay g_Pattern_len g_Places_link g_shown) := by
  intro cdv A outer s H E hr tk hp
  exact (ass_cons (as_if (at_not (at_val (ae_isi (tb := isi_str) T.isi (pe_bltn (v := .ty "str") rfl T.b_str (by decide +kernel) rfl) (.ty "str") T.i_str rfl T.b_isinstance (av 1)))) (ass_one (as_no rfl)) (ass_nil rfl))
    (ass_cons (as_fld (f1 T.f_Pattern_pieces) (av 0) (ae_call tk H_pieces_of (hr.mono (by omega)) rfl T.m_pieces_of T.k_pieces_of (aa_cons (av 1) (aa_nil rfl))))
    (ass_cons (as_fld (f1 T.f_Pattern_tree) (av 0) (ae_meth0 tk T.t_Reader_whole H_Reader_whole (hr.mono (by omega)) (ae_make tk T.mk_Reader H_Reader_init (hr.mono (by omega)) rfl T.m_Reader (aa_cons (ae_fld (f1 T.f_Pattern_pieces) (av 0)) (aa_nil rfl)))))
    (ass_cons (as_fld (f1 T.f_Pattern_places) (av 0) (ae_make0 tk rfl T.mk_Places H_Places_init (hr.mono (by omega)) rfl T.m_Places))
    (ass_cons (as_asg (ae_meth tk T.t_Places_lay H_Places_lay (hr.mono (by omega)) (ae_fld (f1 T.f_Pattern_places) (av 0)) (aa_cons (ae_fld (f1 T.f_Pattern_tree) (av 0)) (aa_nil rfl))) (AG.w0 (on_tup (on_cons (on_fld noexc_var) (on_cons (on_set 2) (on_cons (on_fld noexc_var) on_nil)))) (ag_tup rfl (ags_cons (ag_fld (f1 T.f_Pattern_is_empty) (av 0)) (ags_cons (ag_name rfl (pg_name (i := 2) sc_Pattern_init.nd rfl (.inl rfl))) (ags_cons (ag_fld (f1 T.f_Pattern_last) (av 0)) (ags_nil rfl)))))) rfl rfl rfl (on_tup (on_cons (on_fld noexc_var) (on_cons (on_set 2) (on_cons (on_fld noexc_var) on_nil)))))
    (ass_cons (as_if (at_gt (ae_lenO tk T.o_Pattern_len H_Pattern_len (hr.mono (by omega)) rfl T.b_len (aa_cons (av 0) (aa_nil rfl))) (ae_globI' rfl rfl T.g_MOST_PLACES)) (ass_one (as_no rfl)) (ass_nil rfl))
    (ass_cons (as_expr (ae_meth tk T.t_Places_link H_Places_link (hr.mono (by omega)) (ae_fld (f1 T.f_Pattern_places) (av 0)) (aa_cons (ae_int rfl) (aa_cons (av 2) (aa_nil rfl)))))
    (ass_one (as_fld (f1 T.f_Pattern_written) (av 0) (ae_call tk H_shown (hr.mono (by omega)) rfl T.m_shown T.k_shown (aa_cons (ae_fld (f1 T.f_Pattern_pieces) (av 0)) (aa_nil rfl))))))))))))
theorem sc_Pattern_len : FnScope ["self"] ["self"] (defScope s_Pattern_len) := ⟨rfl, rfl, rfl, by decide +kernel, rfl, by decide +kernel, by decide +kernel⟩
theorem ok_Pattern_len (hk : k0 + 3 ≤ k) (T : Txt p mg a) : BodyOk P w p mg base "Pattern.__len__" s_Pattern_len f ["self"] k m_Pattern_len := by
  intro cdv A outer s H E hr tk hp
  exact (ass_one (as_ret (ae_len T.b_len (aa_cons (ae_sl false (ae_fld (f1 T.f_Places_letters) (ae_fld (f1 T.f_Pattern_places) (av 0))) (ao_some (ae_int rfl)) (ao_none rfl)) (aa_nil rfl)))))
theorem sc_Pattern_str : FnScope ["self"] ["self"] (defScope s_Pattern_str) := ⟨rfl, rfl, rfl, by decide +kernel, rfl, by decide +kernel, by decide +kernel⟩
theorem ok_Pattern_str (hk : k0 + 3 ≤ k) (T : Txt p mg a) : BodyOk P w p mg base "Pattern.__str__" s_Pattern_str f ["self"] k m_Pattern_str := by
  intro cdv A outer s H E hr tk hp
  exact (ass_one (as_ret (ae_fs1 (ae_fld (f1 T.f_Pattern_written) (av 0)))))
theorem sc_Pattern_eq : FnScope ["self", "other"] ["self", "other"] (defScope s_Pattern_eq) := ⟨rfl, rfl, rfl, by decide +kernel, rfl, by decide +kernel, by decide +kernel⟩
theorem ok_Pattern_eq (hk : k0 + 3 ≤ k) (T : Txt p mg a) : BodyOk P w p mg base "Pattern.__eq__" s_Pattern_eq f ["self", "other"] k m_Pattern_eq := by
  intro cdv A outer s H E hr tk hp
  exact (ass_one (as_ret (ae_and (ae_isi (tb := isi_Pattern) T.isi (pe_glob (v := .ref (p.ca 2)) rfl T.m_Pattern rfl) (.own _) T.i_Pattern rfl T.b_isinstance (av 1)) (ae_one (ae_eq hr (ae_fld (f1 T.f_Pattern_pieces) (av 0)) (ae_fld (f1 T.f_Pattern_pieces) (av 1)))))))
theorem sc_l_bag : FnScope ["_law_script", "_law_at", "_law_cell", "_law_digits"] ["_law_script", "_law_at"] (defScope s_l_bag) := ⟨rfl, rfl, rfl, by decide +kernel, rfl, by decide +kernel, by decide +kernel⟩
theorem ok_l_bag (hk : k0 + 3 ≤ k) (T : Txt p mg a) : BodyOk P w p mg base "_law_bag" s_l_bag f ["_law_script", "_law_at", "_law_cell", "_law_digits"] k m_l_bag := by
  intro cdv A outer s H E hr tk hp
  exact (ass_cons (as_set (i := 2) sc_l_bag.nd rfl (.inl rfl) (ae_if (at_lt (av 1) (ae_len T.b_len (aa_cons (av 0) (aa_nil rfl)))) (ae_ix (av 0) (av 1)) (ae_int rfl)))
    (ass_cons (as_set (i := 3) sc_l_bag.nd rfl (.inl rfl) (ae_if (at_ge (ae_abs T.b_abs (aa_cons (av 2) (aa_nil rfl))) (ae_pow (ae_int rfl) (ae_int rfl))) (ae_abs T.b_abs (aa_cons (av 2) (aa_nil rfl))) (ae_int rfl)))
    (ass_one (as_ret (ae_lstC (aa_cons (av 3) (aa_cons (ae_add false (ae_add false (ae_mul false (ae_mod (ae_int1 T.b_int (aa_cons (av 2) (aa_nil rfl))) (ae_int rfl)) (ae_int rfl)) (ae_mul false (ae_int rfl) (av 1))) (ae_int rfl)) (aa_cons (ae_int rfl) (aa_nil rfl)))))))))
theorem sc_l_take : FnScope ["_law_bag_here", "_law_many", "_law_digit", "_law_mixed"] ["_law_bag_here", "_law_many"] (defScope s_l_take) := ⟨rfl, rfl, rfl, by decide +kernel, rfl, by decide +kernel, by decide +kernel⟩
theorem ok_l_take (hk : k0 + 3 ≤ k) (T : Txt p mg a) : BodyOk P w p mg base "_law_take" s_l_take f ["_law_bag_here", "_law_many", "_law_digit", "_law_mixed"] k m_l_take := by
  intro cdv A outer s H E hr tk hp
  exact (ass_cons (as_if (at_gt (ae_ix (av 0) (ae_int rfl)) (ae_int rfl)) (ass_cons (as_set (i := 2) sc_l_take.nd rfl (.inl rfl) (ae_mod (ae_int1 T.b_int (aa_cons (ae_ix (av 0) (ae_int rfl)) (aa_nil rfl))) (av 1)))
    (ass_cons (as_sub (ae_fdiv (ae_ix (av 0) (ae_int rfl)) (av 1)) (av 0) (ae_int rfl))
    (ass_one (as_ret (av 2))))) (ass_nil rfl))
    (ass_cons (as_sub (ae_add false (ae_ix (av 0) (ae_int rfl)) (ae_int rfl)) (av 0) (ae_int rfl))
    (ass_cons (as_set (i := 3) sc_l_take.nd rfl (.inl rfl) (ae_mod (ae_int1 T.b_int (aa_cons (ae_pow (ae_add false (ae_ix (av 0) (ae_int rfl)) (ae_mul false (ae_int rfl) (ae_ix (av 0) (ae_int rfl)))) (ae_int rfl)) (aa_nil rfl))) (ae_int rfl)))
    (ass_cons (as_set (i := 3) sc_l_take.nd rfl (.inl rfl) (ae_mod (ae_int1 T.b_int (aa_cons (ae_pow (ae_add false (av 3) (ae_mul false (ae_int rfl) (ae_ix (av 0) (ae_int rfl)))) (ae_int rfl)) (aa_nil rfl))) (ae_int rfl)))
    (ass_one (as_ret (ae_mod (ae_int1 T.b_int (aa_cons (ae_fdiv (av 3) (ae_int rfl)) (aa_nil rfl))) (av 1))))))))
theorem sc_l_of : FnScope ["_law_bag_here", "_law_some"] ["_law_bag_here", "_law_some"] (defScope s_l_of) := ⟨rfl, rfl, rfl, by decide +kernel, rfl, by decide +kernel, by decide +kernel⟩
theorem ok_l_of (hk : k0 + 3 ≤ k) (T : Txt p mg a) {g_l_take : Fn} (H_l_take : FnA P w p mg base k0 a.a_l_take g_l_take) : BodyOk P w p mg base "_law_of" s_l_of f ["_law_bag_here", "_law_some"] k (m_l_of g_l_take) := by
  intro cdv A outer s H E hr tk hp
  exact (ass_one (as_ret (ae_ix (av 1) (ae_call tk H_l_take (hr.mono (by omega)) rfl T.m_l_take T.k_l_take (aa_cons (av 0) (aa_cons (ae_len T.b_len (aa_cons (av 1) (aa_nil rfl))) (aa_nil rfl)))))))
theorem sc_l_letters : FnScope ["_law_bag_here", "_law_many", "_law_left", "_law_found", "_law_turn"] ["_law_bag_here", "_law_many"] (defScope s_l_letters) := ⟨rfl, rfl, rfl, by decide +kernel, rfl, by decide +kernel, by decide +kernel⟩
theorem ok_l_letters (hk : k0 + 3 ≤ k) (T : Txt p mg a) {g_l_take : Fn} (H_l_take : FnA P w p mg base k0 a.a_l_take g_l_take) : BodyOk P w p mg base "_law_letters" s_l_letters f ["_law_bag_here", "_law_many", "_law_left", "_law_found", "_law_turn"] k (m_l_letters g_l_take) := by
  intro cdv A outer s H E hr tk hp
  exact (ass_cons (as_par (i := 2) (j := 3) rfl sc_l_letters.nd rfl rfl (by decide) rfl rfl (aa_cons (ae_listS true rfl rfl T.b_list (aa_cons (ae_str rfl) (aa_nil rfl))) (aa_cons (ae_lstC (aa_nil rfl)) (aa_nil rfl))) rfl)
    (ass_cons (as_for hp rfl (ai_rng1 rfl T.b_range (aa_cons (av 1) (aa_nil rfl))) (ag_name rfl (pg_name (i := 4) sc_l_letters.nd rfl (.inl rfl))) (on_set 4) (ass_one (as_expr (ae_append (av 3) (aa_cons (ae_popAt (av 2) (aa_cons (ae_call tk H_l_take (hr.mono (by omega)) rfl T.m_l_take T.k_l_take (aa_cons (av 0) (aa_cons (ae_len T.b_len (aa_cons (av 2) (aa_nil rfl))) (aa_nil rfl)))) (aa_nil rfl))) (aa_nil rfl))))))
    (ass_one (as_ret (ae_sortS false rfl T.b_sorted (aa_cons (av 3) (aa_nil rfl)))))))
theorem sc_l_item : FnScope ["_law_bag_here", "_law_letters_here", "_law_deep", "_law_left", "_law_sort", "_law_sign", "_law_some", "_law_turn", "_law_size"] ["_law_bag_here", "_law_letters_here", "_law_deep", "_law_left"] (defScope s_l_item) := ⟨rfl, rfl, rfl, by decide +kernel, rfl, by decide +kernel, by decide +kernel⟩
theorem ok_l_item (hk : k0 + 3 ≤ k) (T : Txt p mg a) {g_l_of : Fn} (H_l_of : FnA P w p mg base k0 a.a_l_of g_l_of) {g_l_take : Fn} (H_l_take : FnA P w p mg base k0 a.a_l_take g_l_take) {g_l_branches : Fn} (H_l_branches : FnA P w p mg base k0 a.a_l_branches g_l_branches) : BodyOk P w p mg base "_law_item" s_l_item f ["_law_bag_here", "_law_letters_here", "_law_deep", "_law_left", "_law_sort", "_law_sign", "_law_some", "_law_turn", "_law_size"] k (m_l_item g_l_of g_l_take g_l_branches) := by
  intro cdv A outer s H E hr tk hp
  exact (ass_cons (as_par (i := 4) (j := 5) rfl sc_l_item.nd rfl rfl (by decide) rfl rfl (aa_cons (ae_call tk H_l_take (hr.mono (by omega)) rfl T.m_l_take T.k_l_take (aa_cons (av 0) (aa_cons (ae_int rfl) (aa_nil rfl)))) (aa_cons (ae_call tk H_l_of (hr.mono (by omega)) rfl T.m_l_of T.k_l_of (aa_cons (av 0) (aa_cons (ae_lstF (aa_cons (ae_str rfl) (aa_cons (ae_str rfl) (aa_cons (ae_str rfl) (aa_cons (ae_str rfl) (aa_cons (ae_str rfl) (aa_cons (ae_str rfl) (aa_cons (ae_str rfl) (aa_nil rfl))))))))) (aa_nil rfl)))) (aa_nil rfl))) rfl)
    (ass_cons (as_if (AWt.at (aw_and (at_eq hr (av 4) (ae_int rfl)) (aw_and (at_gt (av 2) (ae_int rfl)) (aw_and1 (at_gt (ae_ix (av 3) (ae_int rfl)) (ae_int rfl)))))) (ass_one (as_ret (ae_tup (aa_cons (ae_str rfl) (aa_cons (ae_call tk H_l_branches (hr.mono (by omega)) rfl T.m_l_branches T.k_l_branches (aa_cons (av 0) (aa_cons (av 1) (aa_cons (ae_sub (av 2) (ae_int rfl)) (aa_cons (av 3) (aa_nil rfl)))))) (aa_cons (av 5) (aa_nil rfl))))))) (ass_nil rfl))
    (ass_cons (as_if (at_eq hr (av 4) (ae_int rfl)) (ass_cons (as_set (i := 6) sc_l_item.nd rfl (.inl rfl) (ae_list1 true T.b_list (aa_cons (av 1) (aa_nil rfl))))
    (ass_cons (as_for hp rfl (ai_rng1 rfl T.b_range (aa_cons (ae_sub (ae_sub (ae_len T.b_len (aa_cons (av 1) (aa_nil rfl))) (ae_int rfl)) (ae_call tk H_l_take (hr.mono (by omega)) rfl T.m_l_take T.k_l_take (aa_cons (av 0) (aa_cons (ae_min2 rfl T.b_min (aa_cons (ae_int rfl) (aa_cons (ae_len T.b_len (aa_cons (av 1) (aa_nil rfl))) (aa_nil rfl)))) (aa_nil rfl))))) (aa_nil rfl))) (ag_name rfl (pg_name (i := 7) sc_l_item.nd rfl (.inl rfl))) (on_set 7) (ass_one (as_expr (ae_popAt (av 6) (aa_cons (ae_call tk H_l_take (hr.mono (by omega)) rfl T.m_l_take T.k_l_take (aa_cons (av 0) (aa_cons (ae_len T.b_len (aa_cons (av 6) (aa_nil rfl))) (aa_nil rfl)))) (aa_nil rfl))))))
    (ass_cons (as_sub (ae_sub (ae_ix (av 3) (ae_int rfl)) (ae_int rfl)) (av 3) (ae_int rfl))
    (ass_one (as_ret (ae_tup (aa_cons (ae_str rfl) (aa_cons (ae_join (ae_str rfl) (av 6)) (aa_cons (av 5) (aa_nil rfl)))))))))) (ass_nil rfl))
    (ass_cons (as_set (i := 8) sc_l_item.nd rfl (.inl rfl) (ae_add false (ae_int rfl) (ae_call tk H_l_take (hr.mono (by omega)) rfl T.m_l_take T.k_l_take (aa_cons (av 0) (aa_cons (ae_min2 rfl T.b_min (aa_cons (ae_int rfl) (aa_cons (ae_ix (av 3) (ae_int rfl)) (aa_nil rfl)))) (aa_nil rfl))))))
    (ass_cons (as_sub (ae_sub (ae_ix (av 3) (ae_int rfl)) (av 8)) (av 3) (ae_int rfl))
    (ass_one (as_ret (ae_tup (aa_cons (ae_str rfl) (aa_cons (ae_join (ae_str rfl) (ae_lc (own := [("_law_turn", 7)]) (c := (.nm 7)) false rfl sc_l_item.nd (ai_rng1 rfl T.b_range (aa_cons (av 8) (aa_nil rfl))) (blkOk_by (N := ["_law_bag_here", "_law_letters_here", "_law_deep", "_law_left", "_law_sort", "_law_sign", "_law_some", "_law_turn", "_law_size"]) (sc := defScope s_l_item) (by decide +kernel)) (by decide) (fun _ _ _ _ _ => (pg_name (i := 7) sc_l_item.nd rfl (.inl rfl))) (fun _ _ _ _ _ => (ats_nil rfl)) (fun _ _ _ _ _ => (ae_call tk0 H_l_of (hr.mono (by omega)) rfl T.m_l_of T.k_l_of (aa_cons (av 0) (aa_cons (av 1) (aa_nil rfl))))))) (aa_cons (av 5) (aa_nil rfl))))))))))))
theorem sc_l_branches : FnScope ["_law_bag_here", "_law_letters_here", "_law_deep", "_law_left", "_law_found", "_law_items"] ["_law_bag_here", "_law_letters_here", "_law_deep", "_law_left"] (defScope s_l_branches) := ⟨rfl, rfl, rfl, by decide +kernel, rfl, by decide +kernel, by decide +kernel⟩
theorem ok_l_branches (hk : k0 + 3 ≤ k) (T : Txt p mg a) {g_l_take : Fn} (H_l_take : FnA P w p mg base k0 a.a_l_take g_l_take) {g_l_item : Fn} (H_l_item : FnA P w p mg base k0 a.a_l_item g_l_item) : BodyOk P w p mg base "_law_branches" s_l_branches f ["_law_bag_here", "_law_letters_here", "_law_deep", "_law_left", "_law_found", "_law_items"] k (m_l_branches g_l_take g_l_item) := by
  intro cdv A outer s H E hr tk hp
  exact (ass_cons (as_set (i := 4) sc_l_branches.nd rfl (.inl rfl) (ae_lstC (aa_nil rfl)))
    (ass_cons (as_while wfuel hp (AWt.at (aw_or (at_eq hr (av 4) (ae_lstF (aa_nil rfl))) (aw_or1 (AWt.at (aw_and (at_gt (ae_ix (av 3) (ae_int rfl)) (ae_int rfl)) (aw_and (at_lt (ae_len T.b_len (aa_cons (av 4) (aa_nil rfl))) (ae_int rfl)) (aw_and1 (at_eq hr (ae_call tk H_l_take (hr.mono (by omega)) rfl T.m_l_take T.k_l_take (aa_cons (av 0) (aa_cons (ae_int rfl) (aa_nil rfl)))) (ae_int rfl))))))))) (ass_cons (as_set (i := 5) sc_l_branches.nd rfl (.inl rfl) (ae_lstC (aa_cons (ae_call tk H_l_item (hr.mono (by omega)) rfl T.m_l_item T.k_l_item (aa_cons (av 0) (aa_cons (av 1) (aa_cons (av 2) (aa_cons (av 3) (aa_nil rfl)))))) (aa_nil rfl))))
    (ass_cons (as_while wfuel hp (AWt.at (aw_and (at_gt (ae_ix (av 3) (ae_int rfl)) (ae_int rfl)) (aw_and (at_lt (ae_len T.b_len (aa_cons (av 5) (aa_nil rfl))) (ae_int rfl)) (aw_and1 (at_gt (ae_call tk H_l_take (hr.mono (by omega)) rfl T.m_l_take T.k_l_take (aa_cons (av 0) (aa_cons (ae_int rfl) (aa_nil rfl)))) (ae_int rfl)))))) (ass_one (as_expr (ae_append (av 5) (aa_cons (ae_call tk H_l_item (hr.mono (by omega)) rfl T.m_l_item T.k_l_item (aa_cons (av 0) (aa_cons (av 1) (aa_cons (av 2) (aa_cons (av 3) (aa_nil rfl)))))) (aa_nil rfl))))))
    (ass_one (as_expr (ae_append (av 4) (aa_cons (ae_frz (av 5)) (aa_nil rfl))))))))
    (ass_one (as_ret (av 4)))))
theorem sc_l_pieces : FnScope ["_law_branches_here", "_law_found", "_law_items", "_law_sort", "_law_inner", "_law_sign"] ["_law_branches_here"] (defScope s_l_pieces) := ⟨rfl, rfl, rfl, by decide +kernel, rfl, by decide +kernel, by decide +kernel⟩
theorem ok_l_pieces (hk : k0 + 3 ≤ k) (T : Txt p mg a) {g_l_pieces : Fn} (H_l_pieces : FnA P w p mg base k0 a.a_l_pieces g_l_pieces) : BodyOk P w p mg base "_law_pieces" s_l_pieces f ["_law_branches_here", "_law_found", "_law_items", "_law_sort", "_law_inner", "_law_sign"] k (m_l_pieces g_l_pieces) := by
  intro cdv A outer s H E hr tk hp
  exact (ass_cons (as_set (i := 1) sc_l_pieces.nd rfl (.inl rfl) (ae_lstC (aa_nil rfl)))
    (ass_cons (as_for hp rfl (ai_val (av 0)) (ag_name rfl (pg_name (i := 2) sc_l_pieces.nd rfl (.inl rfl))) (on_set 2) (ass_cons (as_for hp rfl (ai_val (av 2)) (ag_tup rfl (ags_cons (ag_name rfl (pg_name (i := 3) sc_l_pieces.nd rfl (.inl rfl))) (ags_cons (ag_name rfl (pg_name (i := 4) sc_l_pieces.nd rfl (.inl rfl))) (ags_cons (ag_name rfl (pg_name (i := 5) sc_l_pieces.nd rfl (.inl rfl))) (ags_nil rfl))))) (on_tup (on_cons (on_set 3) (on_cons (on_set 4) (on_cons (on_set 5) on_nil)))) (ass_cons (as_if (at_eq hr (av 3) (ae_str rfl)) (ass_one (as_set (i := 1) sc_l_pieces.nd rfl (.inl rfl) (ae_add true (ae_add false (ae_add false (av 1) (ae_lstF (aa_cons (ae_str rfl) (aa_nil rfl)))) (ae_call tk H_l_pieces (hr.mono (by omega)) rfl T.m_l_pieces T.k_l_pieces (aa_cons (av 4) (aa_nil rfl)))) (ae_lstF (aa_cons (ae_str rfl) (aa_nil rfl)))))) (ass_one (as_expr (ae_append (av 1) (aa_cons (ae_if (at_eq hr (av 3) (ae_str rfl)) (ae_add false (ae_add false (ae_str rfl) (av 4)) (ae_str rfl)) (ae_add false (ae_add false (ae_str rfl) (av 4)) (ae_str rfl))) (aa_nil rfl))))))
    (ass_one (as_set (i := 1) sc_l_pieces.nd rfl (.inl rfl) (ae_add true (av 1) (ae_mul false (ae_lstF (aa_cons (av 5) (aa_nil rfl))) (ae_len T.b_len (aa_cons (av 5) (aa_nil rfl)))))))))
    (ass_one (as_expr (ae_append (av 1) (aa_cons (ae_str rfl) (aa_nil rfl)))))))
    (ass_one (as_ret (ae_sl false (av 1) (ao_none rfl) (ao_some (ae_neg (ae_int rfl))))))))
theorem sc_l_written : FnScope ["_law_branches_here", "_law_parts", "_law_items", "_law_row", "_law_sort", "_law_inner", "_law_sign", "_law_text"] ["_law_branches_here"] (defScope s_l_written) := ⟨rfl, rfl, rfl, by decide +kernel, rfl, by decide +kernel, by decide +kernel⟩
theorem ok_l_written (hk : k0 + 3 ≤ k) (T : Txt p mg a) {g_l_written : Fn} (H_l_written : FnA P w p mg base k0 a.a_l_written g_l_written) : BodyOk P w p mg base "_law_written" s_l_written f ["_law_branches_here", "_law_parts", "_law_items", "_law_row", "_law_sort", "_law_inner", "_law_sign", "_law_text"] k (m_l_written g_l_written) := by
  intro cdv A outer s H E hr tk hp
  exact (ass_cons (as_set (i := 1) sc_l_written.nd rfl (.inl rfl) (ae_lstC (aa_nil rfl)))
    (ass_cons (as_for hp rfl (ai_val (av 0)) (ag_name rfl (pg_name (i := 2) sc_l_written.nd rfl (.inl rfl))) (on_set 2) (ass_cons (as_set (i := 3) sc_l_written.nd rfl (.inl rfl) (ae_lstC (aa_nil rfl)))
    (ass_cons (as_for hp rfl (ai_val (av 2)) (ag_tup rfl (ags_cons (ag_name rfl (pg_name (i := 4) sc_l_written.nd rfl (.inl rfl))) (ags_cons (ag_name rfl (pg_name (i := 5) sc_l_written.nd rfl (.inl rfl))) (ags_cons (ag_name rfl (pg_name (i := 6) sc_l_written.nd rfl (.inl rfl))) (ags_nil rfl))))) (on_tup (on_cons (on_set 4) (on_cons (on_set 5) (on_cons (on_set 6) on_nil)))) (ass_cons (as_set (i := 7) sc_l_written.nd rfl (.inl rfl) (ae_if (at_eq hr (av 4) (ae_str rfl)) (ae_add false (ae_add false (ae_str rfl) (av 5)) (ae_str rfl)) (ae_if (at_eq hr (av 4) (ae_str rfl)) (ae_add false (ae_add false (ae_str rfl) (av 5)) (ae_str rfl)) (ae_str rfl))))
    (ass_one (as_expr (ae_append (av 3) (aa_cons (ae_add false (ae_if (at_ne hr (av 4) (ae_str rfl)) (av 7) (ae_add false (ae_add false (ae_str rfl) (ae_call tk H_l_written (hr.mono (by omega)) rfl T.m_l_written T.k_l_written (aa_cons (av 5) (aa_nil rfl)))) (ae_str rfl))) (av 6)) (aa_nil rfl)))))))
    (ass_one (as_expr (ae_append (av 1) (aa_cons (ae_join (ae_str rfl) (av 3)) (aa_nil rfl))))))))
    (ass_one (as_ret (ae_join (ae_str rfl) (av 1))))))
theorem sc_l_spaced : FnScope ["_law_bag_here", "_law_pieces_here", "_law_text", "_law_piece"] ["_law_bag_here", "_law_pieces_here"] (defScope s_l_spaced) := ⟨rfl, rfl, rfl, by decide +kernel, rfl, by decide +kernel, by decide +kernel⟩
theorem ok_l_spaced (hk : k0 + 3 ≤ k) (T : Txt p mg a) {g_l_of : Fn} (H_l_of : FnA P w p mg base k0 a.a_l_of g_l_of) {g_l_take : Fn} (H_l_take : FnA P w p mg base k0 a.a_l_take g_l_take) : BodyOk P w p mg base "_law_spaced" s_l_spaced f ["_law_bag_here", "_law_pieces_here", "_law_text", "_law_piece"] k (m_l_spaced g_l_of g_l_take) := by
  intro cdv A outer s H E hr tk hp
  exact (ass_cons (as_set (i := 2) sc_l_spaced.nd rfl (.inl rfl) (ae_str rfl))
    (ass_cons (as_for hp rfl (ai_val (av 1)) (ag_name rfl (pg_name (i := 3) sc_l_spaced.nd rfl (.inl rfl))) (on_set 3) (ass_one (as_set (i := 2) sc_l_spaced.nd rfl (.inl rfl) (ae_add false (ae_add false (av 2) (ae_mul false (ae_str rfl) (ae_call tk H_l_of (hr.mono (by omega)) rfl T.m_l_of T.k_l_of (aa_cons (av 0) (aa_cons (ae_lstF (aa_cons (ae_int rfl) (aa_cons (ae_int rfl) (aa_cons (ae_int rfl) (aa_cons (ae_int rfl) (aa_nil rfl)))))) (aa_nil rfl)))))) (av 3)))))
    (ass_one (as_ret (ae_add false (av 2) (ae_mul false (ae_str rfl) (ae_call tk H_l_take (hr.mono (by omega)) rfl T.m_l_take T.k_l_take (aa_cons (av 0) (aa_cons (ae_int rfl) (aa_nil rfl))))))))))
theorem sc_l_places : FnScope ["_law_branches_here", "_law_found", "_law_items", "_law_sort", "_law_inner", "_law_sign"] ["_law_branches_here"] (defScope s_l_places) := ⟨rfl, rfl, rfl, by decide +kernel, rfl, by decide +kernel, by decide +kernel⟩
theorem ok_l_places (hk : k0 + 3 ≤ k) (T : Txt p mg a) {g_l_places : Fn} (H_l_places : FnA P w p mg base k0 a.a_l_places g_l_places) : BodyOk P w p mg base "_law_places" s_l_places f ["_law_branches_here", "_law_found", "_law_items", "_law_sort", "_law_inner", "_law_sign"] k (m_l_places g_l_places) := by
  intro cdv A outer s H E hr tk hp
  exact (ass_cons (as_set (i := 1) sc_l_places.nd rfl (.inl rfl) (ae_int rfl))
    (ass_cons (as_for hp rfl (ai_val (av 0)) (ag_name rfl (pg_name (i := 2) sc_l_places.nd rfl (.inl rfl))) (on_set 2) (ass_one (as_for hp rfl (ai_val (av 2)) (ag_tup rfl (ags_cons (ag_name rfl (pg_name (i := 3) sc_l_places.nd rfl (.inl rfl))) (ags_cons (ag_name rfl (pg_name (i := 4) sc_l_places.nd rfl (.inl rfl))) (ags_cons (ag_name rfl (pg_name (i := 5) sc_l_places.nd rfl (.inl rfl))) (ags_nil rfl))))) (on_tup (on_cons (on_set 3) (on_cons (on_set 4) (on_cons (on_set 5) on_nil)))) (ass_one (as_if (at_eq hr (av 3) (ae_str rfl)) (ass_one (as_set (i := 1) sc_l_places.nd rfl (.inl rfl) (ae_add false (av 1) (ae_call tk H_l_places (hr.mono (by omega)) rfl T.m_l_places T.k_l_places (aa_cons (av 4) (aa_nil rfl)))))) (ass_one (as_set (i := 1) sc_l_places.nd rfl (.inl rfl) (ae_add false (av 1) (ae_if (at_eq hr (av 3) (ae_str rfl)) (ae_len T.b_len (aa_cons (av 4) (aa_nil rfl))) (ae_int rfl))))))))))
    (ass_one (as_ret (av 1)))))
theorem sc_l_right : FnScope ["_law_bag_here", "_law_branches_here", "_law_pieces_here", "_law_text", "_law_told", "_law_again", "_law_others", "_law_other", "_law_thing"] ["_law_bag_here"] (defScope s_l_right) := ⟨rfl, rfl, rfl, by decide +kernel, rfl, by decide +kernel, by decide +kernel⟩
theorem ok_l_right (hk : k0 + 3 ≤ k) (T : Txt p mg a) {g_l_branches : Fn} (H_l_branches : FnA P w p mg base k0 a.a_l_branches g_l_branches) {g_l_take : Fn} (H_l_take : FnA P w p mg base k0 a.a_l_take g_l_take) {g_l_letters : Fn} (H_l_letters : FnA P w p mg base k0 a.a_l_letters g_l_letters) {g_l_written : Fn} (H_l_written : FnA P w p mg base k0 a.a_l_written g_l_written) {g_l_pieces : Fn} (H_l_pieces : FnA P w p mg base k0 a.a_l_pieces g_l_pieces) {g_Pattern_init : Fn} (H_Pattern_init : FnA P w p mg base k0 a.a_Pattern_init g_Pattern_init) {g_l_spaced : Fn} (H_l_spaced : FnA P w p mg base k0 a.a_l_spaced g_l_spaced) {g_Pattern_str : Fn} (H_Pattern_str : FnA P w p mg base k0 a.a_Pattern_str g_Pattern_str) {g_Pattern_len : Fn} (H_Pattern_len : FnA P w p mg base k0 a.a_Pattern_len g_Pattern_len) {g_l_places : Fn} (H_l_places : FnA P w p mg base k0 a.a_l_places g_l_places) {g_Pattern_eq : Fn} (H_Pattern_eq : FnA P w p mg base k0 a.a_Pattern_eq g_Pattern_eq) : BodyOk P w p mg base "_law_right" s_l_right f ["_law_bag_here", "_law_branches_here", "_law_pieces_here", "_law_text", "_law_told", "_law_again", "_law_others", "_law_other", "_law_thing"] k (m_l_right g_l_branches g_l_take g_l_letters g_l_written g_l_pieces g_Pattern_init g_l_spaced g_Pattern_str g_Pattern_len g_l_places g_Pattern_eq) := by
  intro cdv A outer s H E hr tk hp
  exact (ass_cons (as_set (i := 1) sc_l_right.nd rfl (.inl rfl) (ae_call tk H_l_branches (hr.mono (by omega)) rfl T.m_l_branches T.k_l_branches (aa_cons (av 0) (aa_cons (ae_call tk H_l_letters (hr.mono (by omega)) rfl T.m_l_letters T.k_l_letters (aa_cons (av 0) (aa_cons (ae_add false (ae_int rfl) (ae_call tk H_l_take (hr.mono (by omega)) rfl T.m_l_take T.k_l_take (aa_cons (av 0) (aa_cons (ae_int rfl) (aa_nil rfl))))) (aa_nil rfl)))) (aa_cons (ae_int rfl) (aa_cons (ae_lstC (aa_cons (ae_add false (ae_int rfl) (ae_call tk H_l_take (hr.mono (by omega)) rfl T.m_l_take T.k_l_take (aa_cons (av 0) (aa_cons (ae_int rfl) (aa_nil rfl))))) (aa_nil rfl))) (aa_nil rfl)))))))
    (ass_cons (as_par (i := 2) (j := 3) rfl sc_l_right.nd rfl rfl (by decide) rfl rfl (aa_cons (ae_call tk H_l_pieces (hr.mono (by omega)) rfl T.m_l_pieces T.k_l_pieces (aa_cons (av 1) (aa_nil rfl))) (aa_cons (ae_call tk H_l_written (hr.mono (by omega)) rfl T.m_l_written T.k_l_written (aa_cons (av 1) (aa_nil rfl))) (aa_nil rfl))) rfl)
    (ass_cons (as_asg (ae_tup (aa_cons (ae_make tk T.mk_Pattern H_Pattern_init (hr.mono (by omega)) rfl T.m_Pattern (aa_cons (ae_call tk H_l_spaced (hr.mono (by omega)) rfl T.m_l_spaced T.k_l_spaced (aa_cons (av 0) (aa_cons (av 2) (aa_nil rfl)))) (aa_nil rfl))) (aa_cons (ae_make tk T.mk_Pattern H_Pattern_init (hr.mono (by omega)) rfl T.m_Pattern (aa_cons (av 3) (aa_nil rfl))) (aa_nil rfl)))) (AG.w0 (on_tup (on_cons (on_set 4) (on_cons (on_set 5) on_nil))) (ag_tup rfl (ags_cons (ag_name rfl (pg_name (i := 4) sc_l_right.nd rfl (.inr rfl))) (ags_cons (ag_name rfl (pg_name (i := 5) sc_l_right.nd rfl (.inl rfl))) (ags_nil rfl))))) rfl rfl rfl (on_tup (on_cons (on_set 4) (on_cons (on_set 5) on_nil))))
    (ass_cons (as_if (AWt.at (aw_or (at_ne hr (ae_strO tk T.o_Pattern_str H_Pattern_str (hr.mono (by omega)) rfl T.b_str (aa_cons (av 4) (aa_nil rfl))) (av 3)) (aw_or (at_ne hr (ae_strO tk T.o_Pattern_str H_Pattern_str (hr.mono (by omega)) rfl T.b_str (aa_cons (av 5) (aa_nil rfl))) (av 3)) (aw_or (at_ne hr (ae_lenO tk T.o_Pattern_len H_Pattern_len (hr.mono (by omega)) rfl T.b_len (aa_cons (av 4) (aa_nil rfl))) (ae_call tk H_l_places (hr.mono (by omega)) rfl T.m_l_places T.k_l_places (aa_cons (av 1) (aa_nil rfl)))) (aw_or1 (at_ne hr (ae_lenO tk T.o_Pattern_len H_Pattern_len (hr.mono (by omega)) rfl T.b_len (aa_cons (av 5) (aa_nil rfl))) (ae_lenO tk T.o_Pattern_len H_Pattern_len (hr.mono (by omega)) rfl T.b_len (aa_cons (av 4) (aa_nil rfl))))))))) (ass_one (as_ret (ae_bl rfl))) (ass_nil rfl))
    (ass_cons (as_if (AWt.at (aw_or (at_not (at_eqO tk T.q_Pattern H_Pattern_eq (hr.mono (by omega)) (av 4) (av 5))) (aw_or (at_neO tk T.q_Pattern H_Pattern_eq (hr.mono (by omega)) (av 4) (av 5)) (aw_or (at_neO tk T.q_Pattern H_Pattern_eq (hr.mono (by omega)) (ae_make tk T.mk_Pattern H_Pattern_init (hr.mono (by omega)) rfl T.m_Pattern (aa_cons (ae_join (ae_str rfl) (av 2)) (aa_nil rfl))) (av 4)) (aw_or1 (at_ne hr (ae_strO tk T.o_Pattern_str H_Pattern_str (hr.mono (by omega)) rfl T.b_str (aa_cons (ae_make tk T.mk_Pattern H_Pattern_init (hr.mono (by omega)) rfl T.m_Pattern (aa_cons (ae_strO tk T.o_Pattern_str H_Pattern_str (hr.mono (by omega)) rfl T.b_str (aa_cons (av 4) (aa_nil rfl))) (aa_nil rfl))) (aa_nil rfl))) (av 3))))))) (ass_one (as_ret (ae_bl rfl))) (ass_nil rfl))
    (ass_cons (as_set (i := 6) sc_l_right.nd rfl (.inl rfl) (ae_lstF (aa_cons (ae_add false (ae_add false (ae_str rfl) (av 3)) (ae_str rfl)) (aa_cons (ae_add false (ae_add false (av 3) (ae_str rfl)) (av 3)) (aa_cons (ae_add false (ae_add false (ae_add false (av 3) (ae_str rfl)) (ae_str rfl)) (ae_str rfl)) (aa_nil rfl))))))
    (ass_cons (as_for hp rfl (ai_val (ae_add false (ae_sl false (av 6) (ao_none rfl) (ao_some (ae_int rfl))) (ae_mul false (ae_sl false (av 6) (ao_some (ae_int rfl)) (ao_none rfl)) (ae_int1 T.b_int (aa_cons (ae_le (ae_lenO tk T.o_Pattern_len H_Pattern_len (hr.mono (by omega)) rfl T.b_len (aa_cons (av 4) (aa_nil rfl))) (ae_int rfl)) (aa_nil rfl)))))) (ag_name rfl (pg_name (i := 7) sc_l_right.nd rfl (.inl rfl))) (on_set 7) (ass_one (as_if (AWt.at (aw_or (at_eqO tk T.q_Pattern H_Pattern_eq (hr.mono (by omega)) (ae_make tk T.mk_Pattern H_Pattern_init (hr.mono (by omega)) rfl T.m_Pattern (aa_cons (av 7) (aa_nil rfl))) (av 4)) (aw_or (at_not (at_neO tk T.q_Pattern H_Pattern_eq (hr.mono (by omega)) (ae_make tk T.mk_Pattern H_Pattern_init (hr.mono (by omega)) rfl T.m_Pattern (aa_cons (av 7) (aa_nil rfl))) (av 4))) (aw_or1 (at_ne hr (ae_strO tk T.o_Pattern_str H_Pattern_str (hr.mono (by omega)) rfl T.b_str (aa_cons (ae_make tk T.mk_Pattern H_Pattern_init (hr.mono (by omega)) rfl T.m_Pattern (aa_cons (av 7) (aa_nil rfl))) (aa_nil rfl))) (av 7)))))) (ass_one (as_ret (ae_bl rfl))) (ass_nil rfl))))
    (ass_one (as_ret (ae_not (ae_any1 rfl T.b_any (aa_cons (ae_lc (own := [("_law_thing", 8)]) (c := (.nm 8)) false rfl sc_l_right.nd (ai_val (ae_tup (aa_cons (av 3) (aa_cons (av 2) (aa_cons (ae_non rfl) (aa_cons (ae_int rfl) (aa_cons (ae_lenO tk T.o_Pattern_len H_Pattern_len (hr.mono (by omega)) rfl T.b_len (aa_cons (av 4) (aa_nil rfl))) (aa_nil rfl)))))))) (blkOk_by (N := ["_law_bag_here", "_law_branches_here", "_law_pieces_here", "_law_text", "_law_told", "_law_again", "_law_others", "_law_other", "_law_thing"]) (sc := defScope s_l_right) (by decide +kernel)) (by decide) (fun _ _ _ _ _ => (pg_name (i := 8) sc_l_right.nd rfl (.inl rfl))) (fun _ _ _ _ _ => (ats_nil rfl)) (fun _ _ _ _ _ => (ae_eqO tk0 T.q_Pattern H_Pattern_eq (hr.mono (by omega)) (av 4) (av 8)))) (aa_nil rfl)))))))))))))
theorem sc_l_by_hand : FnScope ["_law_some", "_law_text", "_law_due", "_law_size"] [] (defScope s_l_by_hand) := ⟨rfl, rfl, rfl, by decide +kernel, rfl, by decide +kernel, by decide +kernel⟩
theorem ok_l_by_hand (hk : k0 + 3 ≤ k) (T : Txt p mg a) {g_Pattern_init : Fn} (H_Pattern_init : FnA P w p mg base k0 a.a_Pattern_init g_Pattern_init) {g_Pattern_str : Fn} (H_Pattern_str : FnA P w p mg base k0 a.a_Pattern_str g_Pattern_str) {g_Pattern_len : Fn} (H_Pattern_len : FnA P w p mg base k0 a.a_Pattern_len g_Pattern_len) : BodyOk P w p mg base "_law_by_hand" s_l_by_hand f ["_law_some", "_law_text", "_law_due", "_law_size"] k (m_l_by_hand g_Pattern_init g_Pattern_str g_Pattern_len) := by
  intro cdv A outer s H E hr tk hp
  exact (ass_cons (as_set (i := 0) sc_l_by_hand.nd rfl (.inl rfl) (ae_lstC (aa_cons (ae_tup (aa_cons (ae_str rfl) (aa_cons (ae_str rfl) (aa_cons (ae_int rfl) (aa_nil rfl))))) (aa_cons (ae_tup (aa_cons (ae_str rfl) (aa_cons (ae_str rfl) (aa_cons (ae_int rfl) (aa_nil rfl))))) (aa_nil rfl)))))
    (ass_cons (as_expr (ae_append (av 0) (aa_cons (ae_tup (aa_cons (ae_str rfl) (aa_cons (ae_str rfl) (aa_cons (ae_int rfl) (aa_nil rfl))))) (aa_nil rfl))))
    (ass_cons (as_set (i := 0) sc_l_by_hand.nd rfl (.inl rfl) (ae_add true (av 0) (ae_lstF (aa_cons (ae_tup (aa_cons (ae_str rfl) (aa_cons (ae_str rfl) (aa_cons (ae_int rfl) (aa_nil rfl))))) (aa_cons (ae_tup (aa_cons (ae_str rfl) (aa_cons (ae_str rfl) (aa_cons (ae_int rfl) (aa_nil rfl))))) (aa_nil rfl))))))
    (ass_one (as_ret (ae_all1 rfl T.b_all (aa_cons (ae_lc (own := [("_law_text", 1), ("_law_due", 2), ("_law_size", 3)]) (c := (.tp [1, 2, 3])) false rfl sc_l_by_hand.nd (ai_val (av 0)) (blkOk_by (N := ["_law_some", "_law_text", "_law_due", "_law_size"]) (sc := defScope s_l_by_hand) (by decide +kernel)) (by decide) (fun _ _ _ _ _ => (pg_tup rfl (pgs_cons (pg_name (i := 1) sc_l_by_hand.nd rfl (.inl rfl)) (pgs_cons (pg_name (i := 2) sc_l_by_hand.nd rfl (.inl rfl)) (pgs_cons (pg_name (i := 3) sc_l_by_hand.nd rfl (.inl rfl)) pgs_nil rfl) rfl) rfl) rfl rfl)) (fun _ _ _ _ _ => (ats_nil rfl)) (fun _ _ _ _ _ => (ae_and (ae_eq hr (ae_strO tk0 T.o_Pattern_str H_Pattern_str (hr.mono (by omega)) rfl T.b_str (aa_cons (ae_make tk0 T.mk_Pattern H_Pattern_init (hr.mono (by omega)) rfl T.m_Pattern (aa_cons (av 1) (aa_nil rfl))) (aa_nil rfl))) (av 2)) (ae_one (ae_eq hr (ae_lenO tk0 T.o_Pattern_len H_Pattern_len (hr.mono (by omega)) rfl T.b_len (aa_cons (ae_make tk0 T.mk_Pattern H_Pattern_init (hr.mono (by omega)) rfl T.m_Pattern (aa_cons (av 1) (aa_nil rfl))) (aa_nil rfl))) (av 3)))))) (aa_nil rfl))))))))
theorem sc_law : FnScope ["_law_script", "_law_at", "_law_bag_here", "_law_turn"] ["_law_script"] (defScope s_law) := ⟨rfl, rfl, rfl, by decide +kernel, rfl, by decide +kernel, by decide +kernel⟩
theorem ok_law (hk : k0 + 3 ≤ k) (T : Txt p mg a) {g_l_bag : Fn} (H_l_bag : FnA P w p mg base k0 a.a_l_bag g_l_bag) {g_l_right : Fn} (H_l_right : FnA P w p mg base k0 a.a_l_right g_l_right) {g_l_by_hand : Fn} (H_l_by_hand : FnA P w p mg base k0 a.a_l_by_hand g_l_by_hand) : BodyOk P w p mg base "law" s_law f ["_law_script", "_law_at", "_law_bag_here", "_law_turn"] k (m_law g_l_bag g_l_right g_l_by_hand) := by
  intro cdv A outer s H E hr tk hp
  exact (ass_cons (as_for hp rfl (ai_rng1 rfl T.b_range (aa_cons (ae_max2 rfl T.b_max (aa_cons (ae_int rfl) (aa_cons (ae_min2 rfl T.b_min (aa_cons (ae_int rfl) (aa_cons (ae_len T.b_len (aa_cons (av 0) (aa_nil rfl))) (aa_nil rfl)))) (aa_nil rfl)))) (aa_nil rfl))) (ag_name rfl (pg_name (i := 1) sc_law.nd rfl (.inl rfl))) (on_set 1) (ass_cons (as_set (i := 2) sc_law.nd rfl (.inl rfl) (ae_call tk H_l_bag (hr.mono (by omega)) rfl T.m_l_bag T.k_l_bag (aa_cons (av 0) (aa_cons (av 1) (aa_nil rfl)))))
    (ass_one (as_for hp rfl (ai_rng1 rfl T.b_range (aa_cons (ae_int rfl) (aa_nil rfl))) (ag_name rfl (pg_name (i := 3) sc_law.nd rfl (.inl rfl))) (on_set 3) (ass_one (as_if (at_not (at_val (ae_call tk H_l_right (hr.mono (by omega)) rfl T.m_l_right T.k_l_right (aa_cons (av 2) (aa_nil rfl))))) (ass_one (as_ret (ae_bl rfl))) (ass_nil rfl)))))))
    (ass_one (as_ret (ae_call0 tk rfl H_l_by_hand (hr.mono (by omega)) rfl T.m_l_by_hand T.k_l_by_hand))))
end
end K01

set_option maxRecDepth 100000
set_option maxHeartbeats 4000000
namespace K01
open PySem L2 PyProof.Rows PySem.Spec Ab
noncomputable def F_is_letters : Fn := (body 2 1 m_is_letters)
noncomputable def F_is_quoted : Fn := (body 1 1 (m_is_quoted F_is_letters))
noncomputable def F_is_bracketed : Fn := (body 1 1 (m_is_bracketed F_is_letters))
noncomputable def F_piece_at : Fn := (body 7 2 (m_piece_at F_is_quoted F_is_bracketed))
noncomputable def F_pieces_of : Fn := (body 4 1 (m_pieces_of F_piece_at))
noncomputable def F_shown : Fn := (body 4 1 m_shown)
noncomputable def F_Reader_init : Fn := (body 2 2 m_Reader_init)
noncomputable def F_Reader_is_here : Fn := (starFn 1 (body 2 2 m_Reader_is_here))
noncomputable def F_Reader_begins_item : Fn := (body 1 1 m_Reader_begins_item)
noncomputable def F_Reader_item : Nat → Fn
  | 0 => fun _ _ => none
  | n + 1 => (body 5 2 (m_Reader_item F_Reader_begins_item F_Reader_is_here (body 3 2 (m_Reader_branches (body 3 2 (m_Reader_branch (F_Reader_item n) F_Reader_begins_item)) F_Reader_is_here))))
noncomputable def F_Reader_branch (n : Nat) : Fn := (body 3 2 (m_Reader_branch (F_Reader_item n) F_Reader_begins_item))
noncomputable def F_Reader_branches (n : Nat) : Fn := (body 3 2 (m_Reader_branches (F_Reader_branch n) F_Reader_is_here))
noncomputable def F_Reader_whole : Fn := (body 2 1 (m_Reader_whole (F_Reader_branches 6)))
noncomputable def F_Places_init : Fn := (body 1 1 m_Places_init)
noncomputable def F_Places_add : Fn := (body 2 2 m_Places_add)
noncomputable def F_Places_link : Fn := (body 4 3 m_Places_link)
noncomputable def F_Places_chained : Fn := (body 8 2 (m_Places_chained F_Places_link))
noncomputable def F_Places_lay : Nat → Fn
  | 0 => fun _ _ => none
  | n + 1 => (body 12 2 (m_Places_lay F_Places_add (F_Places_lay n) F_Places_chained F_Places_link))
noncomputable def F_Pattern_len : Fn := (body 1 1 m_Pattern_len)
noncomputable def F_Pattern_init : Fn := (body 3 2 (m_Pattern_init F_pieces_of F_Reader_whole F_Reader_init F_Places_init (F_Places_lay 40) F_Pattern_len F_Places_link F_shown))
noncomputable def F_Pattern_str : Fn := (body 1 1 m_Pattern_str)
noncomputable def F_Pattern_eq : Fn := (body 2 2 m_Pattern_eq)
noncomputable def F_l_bag : Fn := (bodyK 4 2 m_l_bag)
noncomputable def F_l_take : Fn := (body 4 2 m_l_take)
noncomputable def F_l_of : Fn := (body 2 2 (m_l_of F_l_take))
noncomputable def F_l_letters : Fn := (body 5 2 (m_l_letters F_l_take))
noncomputable def F_l_item : Nat → Fn
  | 0 => fun _ _ => none
  | n + 1 => (body 9 4 (m_l_item F_l_of F_l_take (body 6 4 (m_l_branches F_l_take (F_l_item n)))))
noncomputable def F_l_branches (n : Nat) : Fn := (body 6 4 (m_l_branches F_l_take (F_l_item n)))
noncomputable def F_l_pieces : Nat → Fn
  | 0 => fun _ _ => none
  | n + 1 => (body 6 1 (m_l_pieces (F_l_pieces n)))
noncomputable def F_l_written : Nat → Fn
  | 0 => fun _ _ => none
  | n + 1 => (body 8 1 (m_l_written (F_l_written n)))
noncomputable def F_l_spaced : Fn := (body 4 2 (m_l_spaced F_l_of F_l_take))
noncomputable def F_l_places : Nat → Fn
  | 0 => fun _ _ => none
  | n + 1 => (body 6 1 (m_l_places (F_l_places n)))
noncomputable def F_l_right : Fn := (body 9 1 (m_l_right (F_l_branches 6) F_l_take F_l_letters (F_l_written 6) (F_l_pieces 6) F_Pattern_init F_l_spaced F_Pattern_str F_Pattern_len (F_l_places 6) F_Pattern_eq))
noncomputable def F_l_by_hand : Fn := (body 4 0 (m_l_by_hand F_Pattern_init F_Pattern_str F_Pattern_len))
noncomputable def F_law : Fn := (body 4 1 (m_law F_l_bag F_l_right F_l_by_hand))
structure Dfs (p : Par) (a : Ads) : Prop where
  u_is_letters : DefOk p.K "is_letters" "is_letters" s_is_letters a.a_is_letters ["text"]
  u_is_quoted : DefOk p.K "is_quoted" "is_quoted" s_is_quoted a.a_is_quoted ["inner"]
  u_is_bracketed : DefOk p.K "is_bracketed" "is_bracketed" s_is_bracketed a.a_is_bracketed ["inner"]
  u_piece_at : DefOk p.K "piece_at" "piece_at" s_piece_at a.a_piece_at ["text", "at"]
  u_pieces_of : DefOk p.K "pieces_of" "pieces_of" s_pieces_of a.a_pieces_of ["text"]
  u_shown : DefOk p.K "shown" "shown" s_shown a.a_shown ["pieces"]
  u_Reader_init : DefOk p.K "__init__" "Reader.__init__" s_Reader_init a.a_Reader_init ["self", "pieces"]
  u_Reader_is_here : StarOk p.K "is_here" "Reader.is_here" s_Reader_is_here a.a_Reader_is_here ["self"] "signs"
  u_Reader_begins_item : DefOk p.K "begins_item" "Reader.begins_item" s_Reader_begins_item a.a_Reader_begins_item ["self"]
  u_Reader_branches : DefOk p.K "branches" "Reader.branches" s_Reader_branches a.a_Reader_branches ["self", "depth"]
  u_Reader_branch : DefOk p.K "branch" "Reader.branch" s_Reader_branch a.a_Reader_branch ["self", "depth"]
  u_Reader_item : DefOk p.K "item" "Reader.item" s_Reader_item a.a_Reader_item ["self", "depth"]
  u_Reader_whole : DefOk p.K "whole" "Reader.whole" s_Reader_whole a.a_Reader_whole ["self"]
  u_Places_init : DefOk p.K "__init__" "Places.__init__" s_Places_init a.a_Places_init ["self"]
  u_Places_add : DefOk p.K "add" "Places.add" s_Places_add a.a_Places_add ["self", "letters"]
  u_Places_link : DefOk p.K "link" "Places.link" s_Places_link a.a_Places_link ["self", "before", "behind"]
  u_Places_lay : DefOk p.K "lay" "Places.lay" s_Places_lay a.a_Places_lay ["self", "tree"]
  u_Places_chained : DefOk p.K "chained" "Places.chained" s_Places_chained a.a_Places_chained ["self", "laid"]
  u_Pattern_init : DefOk p.K "__init__" "Pattern.__init__" s_Pattern_init a.a_Pattern_init ["self", "text"]
  u_Pattern_len : DefOk p.K "__len__" "Pattern.__len__" s_Pattern_len a.a_Pattern_len ["self"]
  u_Pattern_str : DefOk p.K "__str__" "Pattern.__str__" s_Pattern_str a.a_Pattern_str ["self"]
  u_Pattern_eq : DefOk p.K "__eq__" "Pattern.__eq__" s_Pattern_eq a.a_Pattern_eq ["self", "other"]
  u_l_bag : DefOk p.K "_law_bag" "_law_bag" s_l_bag a.a_l_bag ["_law_script", "_law_at"]
  u_l_take : DefOk p.K "_law_take" "_law_take" s_l_take a.a_l_take ["_law_bag_here", "_law_many"]
  u_l_of : DefOk p.K "_law_of" "_law_of" s_l_of a.a_l_of ["_law_bag_here", "_law_some"]
  u_l_letters : DefOk p.K "_law_letters" "_law_letters" s_l_letters a.a_l_letters ["_law_bag_here", "_law_many"]
  u_l_item : DefOk p.K "_law_item" "_law_item" s_l_item a.a_l_item ["_law_bag_here", "_law_letters_here", "_law_deep", "_law_left"]
  u_l_branches : DefOk p.K "_law_branches" "_law_branches" s_l_branches a.a_l_branches ["_law_bag_here", "_law_letters_here", "_law_deep", "_law_left"]
  u_l_pieces : DefOk p.K "_law_pieces" "_law_pieces" s_l_pieces a.a_l_pieces ["_law_branches_here"]
  u_l_written : DefOk p.K "_law_written" "_law_written" s_l_written a.a_l_written ["_law_branches_here"]
  u_l_spaced : DefOk p.K "_law_spaced" "_law_spaced" s_l_spaced a.a_l_spaced ["_law_bag_here", "_law_pieces_here"]
  u_l_places : DefOk p.K "_law_places" "_law_places" s_l_places a.a_l_places ["_law_branches_here"]
  u_l_right : DefOk p.K "_law_right" "_law_right" s_l_right a.a_l_right ["_law_bag_here"]
  u_l_by_hand : DefOk p.K "_law_by_hand" "_law_by_hand" s_l_by_hand a.a_l_by_hand []
  u_law : DefOk p.K "law" "law" s_law a.a_law ["_law_script"]
section
variable {P : Program} {w : World} {p : Par} {mg : Str → Option Value} {base : Heap} {a : Ads}
theorem A_is_letters (U : Dfs p a) (T : Txt p mg a) : FnA P w p mg base 4 a.a_is_letters F_is_letters := by
  have h := fnB' (P := P) (w := w) (base := base) U.u_is_letters sc_is_letters (ok_is_letters (k0 := 0) (k := 0 + 3) (by omega) T )
  exact h
theorem A_is_quoted (U : Dfs p a) (T : Txt p mg a) : FnA P w p mg base 8 a.a_is_quoted F_is_quoted := by
  have h := fnB' (P := P) (w := w) (base := base) U.u_is_quoted sc_is_quoted (ok_is_quoted (k0 := 4) (k := 4 + 3) (by omega) T ((A_is_letters U T).mono (by decide)))
  exact h
theorem A_is_bracketed (U : Dfs p a) (T : Txt p mg a) : FnA P w p mg base 8 a.a_is_bracketed F_is_bracketed := by
  have h := fnB' (P := P) (w := w) (base := base) U.u_is_bracketed sc_is_bracketed (ok_is_bracketed (k0 := 4) (k := 4 + 3) (by omega) T ((A_is_letters U T).mono (by decide)))
  exact h
theorem A_piece_at (U : Dfs p a) (T : Txt p mg a) : FnA P w p mg base 12 a.a_piece_at F_piece_at := by
  have h := fnB' (P := P) (w := w) (base := base) U.u_piece_at sc_piece_at (ok_piece_at (k0 := 8) (k := 8 + 3) (by omega) T ((A_is_quoted U T).mono (by decide)) ((A_is_bracketed U T).mono (by decide)))
  exact h
theorem A_pieces_of (U : Dfs p a) (T : Txt p mg a) : FnA P w p mg base 16 a.a_pieces_of F_pieces_of := by
  have h := fnB' (P := P) (w := w) (base := base) U.u_pieces_of sc_pieces_of (ok_pieces_of (k0 := 12) (k := 12 + 3) (by omega) T ((A_piece_at U T).mono (by decide)))
  exact h
theorem A_shown (U : Dfs p a) (T : Txt p mg a) : FnA P w p mg base 4 a.a_shown F_shown := by
  have h := fnB' (P := P) (w := w) (base := base) U.u_shown sc_shown (ok_shown (k0 := 0) (k := 0 + 3) (by omega) T )
  exact h
theorem A_Reader_init (U : Dfs p a) (T : Txt p mg a) : FnA P w p mg base 4 a.a_Reader_init F_Reader_init := by
  have h := fnB' (P := P) (w := w) (base := base) U.u_Reader_init sc_Reader_init (ok_Reader_init (k0 := 0) (k := 0 + 3) (by omega) T )
  exact h
theorem A_Reader_is_here (U : Dfs p a) (T : Txt p mg a) : FnA P w p mg base 4 a.a_Reader_is_here F_Reader_is_here := by
  have h := fnS' (P := P) (w := w) (base := base) U.u_Reader_is_here sc_Reader_is_here (ok_Reader_is_here (k0 := 0) (k := 0 + 3) (by omega) T )
  exact h
theorem A_Reader_begins_item (U : Dfs p a) (T : Txt p mg a) : FnA P w p mg base 4 a.a_Reader_begins_item F_Reader_begins_item := by
  have h := fnB' (P := P) (w := w) (base := base) U.u_Reader_begins_item sc_Reader_begins_item (ok_Reader_begins_item (k0 := 0) (k := 0 + 3) (by omega) T )
  exact h
theorem A_Reader_item (U : Dfs p a) (T : Txt p mg a) : ∀ n : Nat, FnA P w p mg base (4 + 12 * n) a.a_Reader_item (F_Reader_item n)
  | 0 => fn_none
  | n + 1 => by
    have h_Reader_item := A_Reader_item U T n
    have h_Reader_branch := fnB' (P := P) (w := w) (base := base) U.u_Reader_branch sc_Reader_branch (ok_Reader_branch (k0 := (4 + 12 * n + 0)) (k := (4 + 12 * n + 0) + 3) (by omega) T (h_Reader_item.mono (by omega)) ((A_Reader_begins_item U T).mono (by omega)))
    have h_Reader_branches := fnB' (P := P) (w := w) (base := base) U.u_Reader_branches sc_Reader_branches (ok_Reader_branches (k0 := (4 + 12 * n + 4)) (k := (4 + 12 * n + 4) + 3) (by omega) T (h_Reader_branch.mono (by omega)) ((A_Reader_is_here U T).mono (by omega)))
    have h := fnB' (P := P) (w := w) (base := base) U.u_Reader_item sc_Reader_item (ok_Reader_item (k0 := (4 + 12 * n + 8)) (k := (4 + 12 * n + 8) + 3) (by omega) T ((A_Reader_begins_item U T).mono (by omega)) ((A_Reader_is_here U T).mono (by omega)) (h_Reader_branches.mono (by omega)))
    exact FnR.mono h (by omega)
theorem A_Reader_branch (U : Dfs p a) (T : Txt p mg a) (n : Nat) : FnA P w p mg base (4 + 12 * n + 4) a.a_Reader_branch (F_Reader_branch n) := by
  have h := fnB' (P := P) (w := w) (base := base) U.u_Reader_branch sc_Reader_branch (ok_Reader_branch (k0 := (4 + 12 * n + 0)) (k := (4 + 12 * n + 0) + 3) (by omega) T ((A_Reader_item U T n).mono (by omega)) ((A_Reader_begins_item U T).mono (by omega)))
  exact h
theorem A_Reader_branches (U : Dfs p a) (T : Txt p mg a) (n : Nat) : FnA P w p mg base (4 + 12 * n + 8) a.a_Reader_branches (F_Reader_branches n) := by
  have h := fnB' (P := P) (w := w) (base := base) U.u_Reader_branches sc_Reader_branches (ok_Reader_branches (k0 := (4 + 12 * n + 4)) (k := (4 + 12 * n + 4) + 3) (by omega) T ((A_Reader_branch U T n).mono (by omega)) ((A_Reader_is_here U T).mono (by omega)))
  exact h
theorem A_Reader_whole (U : Dfs p a) (T : Txt p mg a) : FnA P w p mg base 88 a.a_Reader_whole F_Reader_whole := by
  have h := fnB' (P := P) (w := w) (base := base) U.u_Reader_whole sc_Reader_whole (ok_Reader_whole (k0 := 84) (k := 84 + 3) (by omega) T ((A_Reader_branches U T 6).mono (by decide)))
  exact h
theorem A_Places_init (U : Dfs p a) (T : Txt p mg a) : FnA P w p mg base 4 a.a_Places_init F_Places_init := by
  have h := fnB' (P := P) (w := w) (base := base) U.u_Places_init sc_Places_init (ok_Places_init (k0 := 0) (k := 0 + 3) (by omega) T )
  exact h
theorem A_Places_add (U : Dfs p a) (T : Txt p mg a) : FnA P w p mg base 4 a.a_Places_add F_Places_add := by
  have h := fnB' (P := P) (w := w) (base := base) U.u_Places_add sc_Places_add (ok_Places_add (k0 := 0) (k := 0 + 3) (by omega) T )
  exact h
theorem A_Places_link (U : Dfs p a) (T : Txt p mg a) : FnA P w p mg base 4 a.a_Places_link F_Places_link := by
  have h := fnB' (P := P) (w := w) (base := base) U.u_Places_link sc_Places_link (ok_Places_link (k0 := 0) (k := 0 + 3) (by omega) T )
  exact h
theorem A_Places_chained (U : Dfs p a) (T : Txt p mg a) : FnA P w p mg base 8 a.a_Places_chained F_Places_chained := by
  have h := fnB' (P := P) (w := w) (base := base) U.u_Places_chained sc_Places_chained (ok_Places_chained (k0 := 4) (k := 4 + 3) (by omega) T ((A_Places_link U T).mono (by decide)))
  exact h
theorem A_Places_lay (U : Dfs p a) (T : Txt p mg a) : ∀ n : Nat, FnA P w p mg base (8 + 4 * n) a.a_Places_lay (F_Places_lay n)
  | 0 => fn_none
  | n + 1 => by
    have h_Places_lay := A_Places_lay U T n
    have h := fnB' (P := P) (w := w) (base := base) U.u_Places_lay sc_Places_lay (ok_Places_lay (k0 := (8 + 4 * n + 0)) (k := (8 + 4 * n + 0) + 3) (by omega) T ((A_Places_add U T).mono (by omega)) (h_Places_lay.mono (by omega)) ((A_Places_chained U T).mono (by omega)) ((A_Places_link U T).mono (by omega)))
    exact FnR.mono h (by omega)
theorem A_Pattern_len (U : Dfs p a) (T : Txt p mg a) : FnA P w p mg base 4 a.a_Pattern_len F_Pattern_len := by
  have h := fnB' (P := P) (w := w) (base := base) U.u_Pattern_len sc_Pattern_len (ok_Pattern_len (k0 := 0) (k := 0 + 3) (by omega) T )
  exact h
theorem A_Pattern_init (U : Dfs p a) (T : Txt p mg a) : FnA P w p mg base 172 a.a_Pattern_init F_Pattern_init := by
  have h := fnB' (P := P) (w := w) (base := base) U.u_Pattern_init sc_Pattern_init (ok_Pattern_init (k0 := 168) (k := 168 + 3) (by omega) T ((A_pieces_of U T).mono (by decide)) ((A_Reader_whole U T).mono (by decide)) ((A_Reader_init U T).mono (by decide)) ((A_Places_init U T).mono (by decide)) ((A_Places_lay U T 40).mono (by decide)) ((A_Pattern_len U T).mono (by decide)) ((A_Places_link U T).mono (by decide)) ((A_shown U T).mono (by decide)))
  exact h
theorem A_Pattern_str (U : Dfs p a) (T : Txt p mg a) : FnA P w p mg base 4 a.a_Pattern_str F_Pattern_str := by
  have h := fnB' (P := P) (w := w) (base := base) U.u_Pattern_str sc_Pattern_str (ok_Pattern_str (k0 := 0) (k := 0 + 3) (by omega) T )
  exact h
theorem A_Pattern_eq (U : Dfs p a) (T : Txt p mg a) : FnA P w p mg base 4 a.a_Pattern_eq F_Pattern_eq := by
  have h := fnB' (P := P) (w := w) (base := base) U.u_Pattern_eq sc_Pattern_eq (ok_Pattern_eq (k0 := 0) (k := 0 + 3) (by omega) T )
  exact h
theorem A_l_bag (U : Dfs p a) (T : Txt p mg a) : FnA P w p mg base 4 a.a_l_bag F_l_bag := by
  have h := fnK' (P := P) (w := w) (base := base) U.u_l_bag sc_l_bag (ok_l_bag (k0 := 0) (k := 0 + 3) (by omega) T )
  exact h
theorem A_l_take (U : Dfs p a) (T : Txt p mg a) : FnA P w p mg base 4 a.a_l_take F_l_take := by
  have h := fnB' (P := P) (w := w) (base := base) U.u_l_take sc_l_take (ok_l_take (k0 := 0) (k := 0 + 3) (by omega) T )
  exact h
theorem A_l_of (U : Dfs p a) (T : Txt p mg a) : FnA P w p mg base 8 a.a_l_of F_l_of := by
  have h := fnB' (P := P) (w := w) (base := base) U.u_l_of sc_l_of (ok_l_of (k0 := 4) (k := 4 + 3) (by omega) T ((A_l_take U T).mono (by decide)))
  exact h
theorem A_l_letters (U : Dfs p a) (T : Txt p mg a) : FnA P w p mg base 8 a.a_l_letters F_l_letters := by
  have h := fnB' (P := P) (w := w) (base := base) U.u_l_letters sc_l_letters (ok_l_letters (k0 := 4) (k := 4 + 3) (by omega) T ((A_l_take U T).mono (by decide)))
  exact h
theorem A_l_item (U : Dfs p a) (T : Txt p mg a) : ∀ n : Nat, FnA P w p mg base (8 + 8 * n) a.a_l_item (F_l_item n)
  | 0 => fn_none
  | n + 1 => by
    have h_l_item := A_l_item U T n
    have h_l_branches := fnB' (P := P) (w := w) (base := base) U.u_l_branches sc_l_branches (ok_l_branches (k0 := (8 + 8 * n + 0)) (k := (8 + 8 * n + 0) + 3) (by omega) T ((A_l_take U T).mono (by omega)) (h_l_item.mono (by omega)))
    have h := fnB' (P := P) (w := w) (base := base) U.u_l_item sc_l_item (ok_l_item (k0 := (8 + 8 * n + 4)) (k := (8 + 8 * n + 4) + 3) (by omega) T ((A_l_of U T).mono (by omega)) ((A_l_take U T).mono (by omega)) (h_l_branches.mono (by omega)))
    exact FnR.mono h (by omega)
theorem A_l_branches (U : Dfs p a) (T : Txt p mg a) (n : Nat) : FnA P w p mg base (8 + 8 * n + 4) a.a_l_branches (F_l_branches n) := by
  have h := fnB' (P := P) (w := w) (base := base) U.u_l_branches sc_l_branches (ok_l_branches (k0 := (8 + 8 * n + 0)) (k := (8 + 8 * n + 0) + 3) (by omega) T ((A_l_take U T).mono (by omega)) ((A_l_item U T n).mono (by omega)))
  exact h
theorem A_l_pieces (U : Dfs p a) (T : Txt p mg a) : ∀ n : Nat, FnA P w p mg base (0 + 4 * n) a.a_l_pieces (F_l_pieces n)
  | 0 => fn_none
  | n + 1 => by
    have h_l_pieces := A_l_pieces U T n
    have h := fnB' (P := P) (w := w) (base := base) U.u_l_pieces sc_l_pieces (ok_l_pieces (k0 := (0 + 4 * n + 0)) (k := (0 + 4 * n + 0) + 3) (by omega) T (h_l_pieces.mono (by omega)))
    exact FnR.mono h (by omega)
theorem A_l_written (U : Dfs p a) (T : Txt p mg a) : ∀ n : Nat, FnA P w p mg base (0 + 4 * n) a.a_l_written (F_l_written n)
  | 0 => fn_none
  | n + 1 => by
    have h_l_written := A_l_written U T n
    have h := fnB' (P := P) (w := w) (base := base) U.u_l_written sc_l_written (ok_l_written (k0 := (0 + 4 * n + 0)) (k := (0 + 4 * n + 0) + 3) (by omega) T (h_l_written.mono (by omega)))
    exact FnR.mono h (by omega)
theorem A_l_spaced (U : Dfs p a) (T : Txt p mg a) : FnA P w p mg base 12 a.a_l_spaced F_l_spaced := by
  have h := fnB' (P := P) (w := w) (base := base) U.u_l_spaced sc_l_spaced (ok_l_spaced (k0 := 8) (k := 8 + 3) (by omega) T ((A_l_of U T).mono (by decide)) ((A_l_take U T).mono (by decide)))
  exact h
theorem A_l_places (U : Dfs p a) (T : Txt p mg a) : ∀ n : Nat, FnA P w p mg base (0 + 4 * n) a.a_l_places (F_l_places n)
  | 0 => fn_none
  | n + 1 => by
    have h_l_places := A_l_places U T n
    have h := fnB' (P := P) (w := w) (base := base) U.u_l_places sc_l_places (ok_l_places (k0 := (0 + 4 * n + 0)) (k := (0 + 4 * n + 0) + 3) (by omega) T (h_l_places.mono (by omega)))
    exact FnR.mono h (by omega)
theorem A_l_right (U : Dfs p a) (T : Txt p mg a) : FnA P w p mg base 176 a.a_l_right F_l_right := by
  have h := fnB' (P := P) (w := w) (base := base) U.u_l_right sc_l_right (ok_l_right (k0 := 172) (k := 172 + 3) (by omega) T ((A_l_branches U T 6).mono (by decide)) ((A_l_take U T).mono (by decide)) ((A_l_letters U T).mono (by decide)) ((A_l_written U T 6).mono (by decide)) ((A_l_pieces U T 6).mono (by decide)) ((A_Pattern_init U T).mono (by decide)) ((A_l_spaced U T).mono (by decide)) ((A_Pattern_str U T).mono (by decide)) ((A_Pattern_len U T).mono (by decide)) ((A_l_places U T 6).mono (by decide)) ((A_Pattern_eq U T).mono (by decide)))
  exact h
theorem A_l_by_hand (U : Dfs p a) (T : Txt p mg a) : FnA P w p mg base 176 a.a_l_by_hand F_l_by_hand := by
  have h := fnB' (P := P) (w := w) (base := base) U.u_l_by_hand sc_l_by_hand (ok_l_by_hand (k0 := 172) (k := 172 + 3) (by omega) T ((A_Pattern_init U T).mono (by decide)) ((A_Pattern_str U T).mono (by decide)) ((A_Pattern_len U T).mono (by decide)))
  exact h
theorem A_law (U : Dfs p a) (T : Txt p mg a) : FnA P w p mg base 180 a.a_law F_law := by
  have h := fnB' (P := P) (w := w) (base := base) U.u_law sc_law (ok_law (k0 := 176) (k := 176 + 3) (by omega) T ((A_l_bag U T).mono (by decide)) ((A_l_right U T).mono (by decide)) ((A_l_by_hand U T).mono (by decide)))
  exact h
end
end K01

set_option maxRecDepth 100000
set_option maxHeartbeats 1000000
namespace K01
open PySem L2 PyProof.Rows PySem.Spec Ab
/-- a bag of drawn numbers at k, of which at most n were drawn by mixing -/
def Bag (μ : Sto) (k n : Nat) : Prop := ∃ a b c : Int, μ[k]? = some (.lst [.int a, .int b, .int c]) ∧ 0 ≤ a ∧ (0 ≤ b ∧ b < 2 ^ 63) ∧ 0 ≤ c ∧ c ≤ n
theorem Bag.mono {μ : Sto} {k n m : Nat} (h : Bag μ k n) (hm : n ≤ m) : Bag μ k m := by
  obtain ⟨a, b, c, h1, h2, h3, h4, h5⟩ := h
  exact ⟨a, b, c, h1, h2, h3, h4, by omega⟩
theorem take_ok {μ : Sto} {k n : Nat} {many : Int} (hB : Bag μ k n) (hm : 0 < many ∧ many < 1000) (hn : n < 100000000000) {Q : D → Sto → Prop}
    (hQ : ∀ r o, 0 ≤ r → r < many → Bag (μ.set k o) k (n + 1) → Q (.int r) (μ.set k o)) : wF F_l_take [.ref k, .int many] μ Q := by
  obtain ⟨a, b, c, hk, ha, hb, hc⟩ := hB
  have hl : k < μ.length := lt_at hk
  unfold F_l_take
  rw [f_body]
  refine ⟨rfl, ?_⟩
  show wS m_l_take [some (.ref k), some (.int many), none, none] μ _
  unfold m_l_take
  have x0 : gIx (.ref k) (.int 0) μ = some (.int a, μ) := o_ixC (i := 0) hk rfl
  have x2 : gIx (.ref k) (.int 2) μ = some (.int c, μ) := o_ixC (i := 2) hk rfl
  simp only [w_bnd, w_ret, w_eC, w_var, w_opS, w_op, w_N, w_CB, w_CS, w_nil, w_cons, w_call, w_if, w_B, w_and, w_or, w_not, w_vAnd, w_vOr, w_vNot, w_neg, w_tup, w_lstF, w_lstC, w_chain, w_fld, w_sl, w_oN, w_oS, w_isLs, w_isSt, w_me, w_meth, w_methS, w_make, w_fmt, w_frz, w_isi, s_seq, s_next, s_set, s_asg, s_expr, s_ret, s_retN, s_if, s_cnt, s_brk, s_no, s_par, s_par3, s_tp, s_gsNil, s_gsCons, s_fld, s_fldT, s_sub, s_aug, s_fldA, s_augS, s_for, w_lc, w_src, w_srcL, w_srcT, w_srcS, w_srcR, w_rng1, wO_some, wO_none, List.getElem?_cons_zero, List.getElem?_cons_succ, List.set_cons_zero, List.set_cons_succ, fin_v, fin_lF, fin_lT, x0, x2, o_gt, o_mod hm.1, o_int, o_add, o_fdiv (show 0 < many ∧ many < 1073741824 by omega)]
  refine ⟨_, rfl, ?_⟩
  by_cases h0 : 0 < a
  · have s0 : setIx (.ref k) (.int 0) (.int (a / many)) μ = some (μ.set k (.lst [.int (a / many), .int b, .int c])) := o_setC (i := 0) hk (by simp)
    simp only [decide_eq_true h0, if_true, s0, wO_some]
    rw [leave_same (by simp)]
    exact hQ _ _ (Int.emod_nonneg _ (by omega)) (Int.emod_lt_of_pos _ hm.1) ⟨a / many, b, c, set_at hl, Int.ediv_nonneg ha (by omega), hb, hc.1, by omega⟩
  · have hk' : (μ.set k (.lst [.int a, .int b, .int (c + 1)]))[k]? = some (.lst [.int a, .int b, .int (c + 1)]) := set_at hl
    have y1 : gIx (.ref k) (.int 1) _ = some (.int b, _) := o_ixC (i := 1) hk' rfl
    have y2 : gIx (.ref k) (.int 2) _ = some (.int (c + 1), _) := o_ixC (i := 2) hk' rfl
    have s2' : setIx (.ref k) (.int 2) (.int (c + 1)) μ = some (μ.set k (.lst [.int a, .int b, .int (c + 1)])) := o_setC (i := 2) hk (by simp)
    have p1 : (0 : Int) ≤ 3 ∧ (3 : Int) ≤ 1000000 ∧ (b + 1000081 * (c + 1)).natAbs < 2 ^ 64 := ⟨by decide, by decide, by omega⟩
    have m1 : 0 ≤ (b + 1000081 * (c + 1)) ^ (3 : Int).toNat % 2305843009213693921 := Int.emod_nonneg _ (by decide)
    have m2 : (b + 1000081 * (c + 1)) ^ (3 : Int).toNat % 2305843009213693921 < 2305843009213693921 := Int.emod_lt_of_pos _ (by decide)
    simp only [decide_eq_false h0, s2', wO_some, y1, y2, o_mul (show -(2 ^ 64) < (1000081 : Int) ∧ (1000081 : Int) < 2 ^ 64 by decide), o_mul (show -(2 ^ 64) < (32452867 : Int) ∧ (32452867 : Int) < 2 ^ 64 by decide), fin_v, o_add, o_int, o_pow p1,
      o_mod (show (0 : Int) < 2305843009213693921 by decide), o_mod (show (0 : Int) < 2305843009213693951 by decide), o_mod hm.1, o_fdiv (show (0 : Int) < 2048 ∧ (2048 : Int) < 1073741824 by decide)]
    generalize (b + 1000081 * (c + 1)) ^ (3 : Int).toNat % 2305843009213693921 = z at m1 m2 ⊢
    have p2 : (0 : Int) ≤ 2 ∧ (2 : Int) ≤ 1000000 ∧ (z + 32452867 * (c + 1)).natAbs < 2 ^ 64 := ⟨by decide, by decide, by omega⟩
    simp only [o_pow p2, wO_some, fin_v, o_int, o_mod (show (0 : Int) < 2305843009213693951 by decide), o_mod hm.1, o_fdiv (show (0 : Int) < 2048 ∧ (2048 : Int) < 1073741824 by decide)]
    rw [if_neg (by simp), leave_same (by simp)]
    exact hQ _ _ (Int.emod_nonneg _ (by omega)) (Int.emod_lt_of_pos _ hm.1) ⟨a, b, c + 1, set_at hl, ha, hb, by omega, by omega⟩
end K01

set_option maxRecDepth 100000
set_option maxHeartbeats 1000000
namespace K01
open PySem L2 PyProof.Rows PySem.Spec Ab
theorem nat_of {r m : Int} (h0 : 0 ≤ r) (h1 : r < m) : ∃ i : Nat, r = (i : Int) := ⟨r.toNat, by omega⟩
theorem of_ok {μ : Sto} {k n : Nat} {ds : List D} (hB : Bag μ k n) (hd : 0 < ds.length ∧ ds.length < 1000) (hn : n < 100000000000) {Q : D → Sto → Prop}
    (hQ : ∀ (i : Nat) d o, ds[i]? = some d → Bag (μ.set k o) k (n + 1) → Q d (μ.set k o)) : wF F_l_of [.ref k, .lst ds] μ Q := by
  unfold F_l_of
  rw [f_body]
  refine ⟨rfl, ?_⟩
  show wS (m_l_of F_l_take) [some (.ref k), some (.lst ds)] μ _
  unfold m_l_of
  simp only [w_bnd, w_ret, w_eC, w_var, w_opS, w_op, w_N, w_CB, w_CS, w_nil, w_cons, w_call, w_if, w_B, w_and, w_or, w_not, w_vAnd, w_vOr, w_vNot, w_neg, w_tup, w_lstF, w_lstC, w_chain, w_fld, w_sl, w_oN, w_oS, w_isLs, w_isSt, w_me, w_meth, w_methS, w_make, w_fmt, w_frz, w_isi, s_seq, s_next, s_set, s_asg, s_expr, s_ret, s_retN, s_if, s_cnt, s_brk, s_no, s_par, s_par3, s_tp, s_gsNil, s_gsCons, s_fld, s_fldT, s_sub, s_aug, s_fldA, s_augS, s_for, w_lc, w_src, w_srcL, w_srcT, w_srcS, w_srcR, w_rng1, wO_some, wO_none, List.getElem?_cons_zero, List.getElem?_cons_succ, List.set_cons_zero, List.set_cons_succ, fin_v, fin_lF, fin_lT, o_lenL]
  refine take_ok hB (by omega) hn fun r o h0 h1 hB' => ?_
  obtain ⟨i, rfl⟩ := nat_of h0 h1
  have hi : i < ds.length := by omega
  have e := o_ixL (μ := μ.set k o) (List.getElem?_eq_getElem hi)
  rw [e, wO_some, leave_same (by simp)]
  exact hQ i _ o (List.getElem?_eq_getElem hi) hB'
/-- the letters that are drawn from -/
def abc : List Nat := [97, 98, 99, 120, 121, 122, 65, 90, 48, 49, 57, 46, 44, 58, 59, 43, 45, 42, 47, 60, 61, 62, 38, 124, 40, 41, 63, 33, 35, 36, 39, 64, 94, 95, 123, 125, 126]
def sgs (l : List Nat) : List D := l.map fun c => .str [c]
theorem sgs_len (l : List Nat) : (sgs l).length = l.length := by simp [sgs]
theorem sgs_at {l : List Nat} {i : Nat} {c : Nat} (h : l[i]? = some c) : (sgs l)[i]? = some (.str [c]) := by simp [sgs, h]
theorem sgs_erase (l : List Nat) (i : Nat) : (sgs l).eraseIdx i = sgs (l.eraseIdx i) := by
  unfold sgs
  induction l generalizing i with
  | nil => simp
  | cons c l ih => cases i <;> simp [ih]
theorem strs_sgs : ∀ l : List Nat, asStrs (sgs l) = some (l.map fun c => [c])
  | [] => rfl
  | c :: l => by
    show (asStrs (sgs l)).map ([c] :: ·) = _
    rw [strs_sgs l]
    rfl
def Asc (l : List Nat) : Prop := l.Pairwise (· < ·)
theorem leL1 (a b : Nat) : leL [a] [b] = decide (a ≤ b) := by
  unfold leL
  simp only [ltCps]
  by_cases h : a ≤ b
  · have h1 : ¬ b < a := by omega
    simp [h, h1]
  · have h1 : b < a := by omega
    simp [h, h1]
/-- a sorted row of unlike signs -/
theorem sort_sgs (l : List Nat) (hd : l.Nodup) : ∃ m : List Nat, sortL (l.map fun c => [c]) = m.map (fun c => [c]) ∧ m.Perm l ∧ Asc m := by
  have hp := List.mergeSort_perm (l.map fun c => [c]) leL
  have hw : (sortL (l.map fun c => [c])).Pairwise fun a b => leL a b = true := List.pairwise_mergeSort le_tr le_tot _
  obtain ⟨m, hm⟩ : ∃ m : List Nat, sortL (l.map fun c => [c]) = m.map fun c => [c] := by
    refine ⟨(sortL (l.map fun c => [c])).map fun x => x.headD 0, ?_⟩
    rw [List.map_map]
    conv => lhs; rw [← List.map_id (sortL (l.map fun c => [c]))]
    refine List.map_congr_left fun x hx => ?_
    obtain ⟨c, _, e⟩ := List.mem_map.mp (hp.mem_iff.mp hx)
    subst e
    rfl
  refine ⟨m, hm, ?_, ?_⟩
  · have h2 : (m.map fun c => [c]).Perm (l.map fun c => [c]) := by rw [← hm]; exact hp
    have h3 := h2.map fun x : List Nat => x.headD 0
    rw [List.map_map, List.map_map] at h3
    have e : ((fun x : List Nat => x.headD 0) ∘ fun c : Nat => [c]) = id := rfl
    rw [e, List.map_id, List.map_id] at h3
    exact h3
  · rw [hm, List.pairwise_map] at hw
    have hn : m.Nodup := by
      have h2 : (m.map fun c => [c]).Perm (l.map fun c => [c]) := by rw [← hm]; exact hp
      have h3 := h2.map fun x : List Nat => x.headD 0
      rw [List.map_map, List.map_map] at h3
      have e : ((fun x : List Nat => x.headD 0) ∘ fun c : Nat => [c]) = id := rfl
      rw [e, List.map_id, List.map_id] at h3
      exact h3.nodup_iff.mpr hd
    refine List.Pairwise.imp₂ (fun a b h1 h2 => ?_) hw hn
    rw [leL1] at h1
    simp at h1
    exact Nat.lt_of_le_of_ne h1 h2
/-- what a def does to the store: the bag changes, all else of old stays -/
def Same1 (k : Nat) (μ μ' : Sto) : Prop := μ'.length = μ.length ∧ ∀ i, i ≠ k → μ'[i]? = μ[i]?
theorem Same1.refl {k : Nat} {μ : Sto} : Same1 k μ μ := ⟨rfl, fun _ _ => rfl⟩
theorem Same1.set {k : Nat} {μ : Sto} {o : O} : Same1 k μ (μ.set k o) := ⟨by simp, fun i h => List.getElem?_set_ne (Ne.symm h)⟩
theorem Same1.trans {k : Nat} {μ μ' μ'' : Sto} (h : Same1 k μ μ') (g : Same1 k μ' μ'') : Same1 k μ μ'' := ⟨g.1.trans h.1, fun i hi => (g.2 i hi).trans (h.2 i hi)⟩
theorem refs_sgs {n : Nat} : ∀ l : List Nat, refsLts n (sgs l) = true
  | [] => rfl
  | c :: l => by
    show refsLts n (.str [c] :: sgs l) = true
    simp only [refsLts, refsLt, refs_sgs l, Bool.and_self]
theorem erase_sub {l : List Nat} {i : Nat} {c : Nat} (h : l[i]? = some c) : (c :: l.eraseIdx i).Perm l := by
  induction l generalizing i with
  | nil => simp at h
  | cons d l ih =>
    cases i with
    | zero => simp at h; subst h; simp
    | succ i =>
      simp at h
      simp only [List.eraseIdx_cons_succ]
      exact (List.Perm.swap d c _).trans ((ih h).cons d)
section
variable {ν l : Sto} {k N j : Nat} {o x : O}
theorem old_set (h : k < ν.length) : (ν ++ l).set k o = ν.set k o ++ l := List.set_append_left _ _ h
theorem new_set (hN : ν.length = N) : (ν ++ l).set (N + j) x = ν ++ l.set j x := by
  subst hN
  rw [List.set_append_right _ _ (by omega)]
  simp
theorem new_at (hN : ν.length = N) : (ν ++ l)[N + j]? = l[j]? := by
  subst hN
  rw [List.getElem?_append_right (by omega)]
  simp
theorem new_set0 (hN : ν.length = N) : (ν ++ l).set N x = ν ++ l.set 0 x := new_set (j := 0) hN
theorem new_at0 (hN : ν.length = N) : (ν ++ l)[N]? = l[0]? := new_at (j := 0) hN
theorem Bag.lt {n : Nat} (h : Bag ν k n) : k < ν.length := by
  obtain ⟨a, b, c, h, _⟩ := h
  exact lt_at h
theorem Bag.app {n : Nat} (h : Bag ν k n) : Bag (ν ++ l) k n := by
  obtain ⟨a, b, c, h1, h2⟩ := h
  exact ⟨a, b, c, by rw [List.getElem?_append_left (lt_at h1)]; exact h1, h2⟩
theorem Bag.left {n : Nat} (h : Bag (ν ++ l) k n) (hk : k < ν.length) : Bag ν k n := by
  obtain ⟨a, b, c, h1, h2⟩ := h
  exact ⟨a, b, c, by rw [List.getElem?_append_left hk] at h1; exact h1, h2⟩
end
theorem bag_set {μ : Sto} {k n : Nat} (h : Bag μ k n) : ∃ o, μ.set k o = μ := by
  obtain ⟨a, b, c, h1, h2⟩ := h
  refine ⟨.lst [.int a, .int b, .int c], ?_⟩
  apply List.ext_getElem?
  intro i
  by_cases hi : i = k
  · subst hi; rw [set_at (lt_at h1), h1]
  · rw [List.getElem?_set_ne (Ne.symm hi)]
/-- take, beside cells of the def -/
theorem take_ok' {ν l : Sto} {k n : Nat} {many : Int} (hB : Bag ν k n) (hm : 0 < many ∧ many < 1000) (hn : n < 100000000000) {Q : D → Sto → Prop}
    (hQ : ∀ r o, 0 ≤ r → r < many → Bag (ν.set k o) k (n + 1) → Q (.int r) (ν.set k o ++ l)) : wF F_l_take [.ref k, .int many] (ν ++ l) Q :=
  take_ok hB.app hm hn fun r o h0 h1 hB' => by
    rw [old_set hB.lt] at hB' ⊢
    exact hQ r o h0 h1 (hB'.left (by simpa using hB.lt))
/-- unlike letters, ascending -/
theorem letters_ok {μ : Sto} {k n m : Nat} (hB : Bag μ k n) (hm : m ≤ 8) (hn : n < 50000000000) {Q : D → Sto → Prop}
    (hQ : ∀ (l : List Nat) o, l.length = m → Asc l → (∀ c ∈ l, c ∈ abc) → Bag (μ.set k o) k (n + 8) → Q (.lst (sgs l)) (μ.set k o)) : wF F_l_letters [.ref k, .int (m : Int)] μ Q := by
  have hl : k < μ.length := by
    obtain ⟨a, b, c, h, _⟩ := hB
    exact lt_at h
  unfold F_l_letters
  rw [f_body]
  refine ⟨rfl, ?_⟩
  show wS (m_l_letters F_l_take) [some (.ref k), some (.int (m : Int)), none, none, none] μ _
  unfold m_l_letters
  simp only [w_bnd, w_ret, w_eC, w_var, w_opS, w_op, w_N, w_CB, w_CS, w_nil, w_cons, w_call, w_if, w_B, w_and, w_or, w_not, w_vAnd, w_vOr, w_vNot, w_neg, w_tup, w_lstF, w_lstC, w_chain, w_fld, w_sl, w_oN, w_oS, w_isLs, w_isSt, w_me, w_meth, w_methS, w_make, w_fmt, w_frz, w_isi, s_seq, s_next, s_set, s_asg, s_expr, s_ret, s_retN, s_if, s_cnt, s_brk, s_no, s_par, s_par3, s_tp, s_gsNil, s_gsCons, s_fld, s_fldT, s_sub, s_aug, s_fldA, s_augS, s_for, w_lc, w_src, w_srcL, w_srcT, w_srcS, w_srcR, w_rng1, wO_some, wO_none, List.getElem?_cons_zero, List.getElem?_cons_succ, List.set_cons_zero, List.set_cons_succ, fin_v, fin_lF, fin_lT, gListS]
  refine ⟨by decide, _, _, rfl, (m : Int), rfl, by omega, ?_⟩
  have e0 : (m : Int).toNat = m := by omega
  rw [e0]
  refine s_fix (fun i Γ1 μ1 => ∃ (o : O) (left found : List Nat) (x : Option D), Γ1 = [some (.ref k), some (.int (m : Int)), some (.ref μ.length), some (.ref (μ.length + 1)), x] ∧ μ1 = μ.set k o ++ [.lst (sgs left), .lst (sgs found)] ∧ Bag (μ.set k o) k (n + i) ∧ (left ++ found).Perm abc ∧ found.length = i) ?_ ?_ ?_
  · obtain ⟨o, eo⟩ := bag_set hB
    refine ⟨o, abc, [], none, ?_, ?_, ?_, by simp, rfl⟩
    · simp
    · rw [eo]
      simp [sgs, abc]
    · rw [eo]; exact hB
  · rintro i d Γ1 μ1 hd ⟨o, left, found, x, rfl, rfl, hB1, hp, hf⟩
    have hlen : left.length + found.length = 37 := by
      have := hp.length_eq
      simpa [abc] using this
    have hi : i < m := by
      have := (List.getElem?_eq_some_iff.mp hd).1
      simpa [intsD] using this
    have hN : ∀ o, (μ.set k o).length = μ.length := fun o => by simp
    have c0 : ∀ o l f, (μ.set k o ++ [O.lst l, O.lst f])[μ.length]? = some (.lst l) := fun o l f => new_at0 (hN o)
    have c1 : ∀ o l f, (μ.set k o ++ [O.lst l, O.lst f])[μ.length + 1]? = some (.lst f) := fun o l f => new_at (j := 1) (hN o)
    simp only [w_bnd, w_ret, w_eC, w_var, w_opS, w_op, w_N, w_CB, w_CS, w_nil, w_cons, w_call, w_if, w_B, w_and, w_or, w_not, w_vAnd, w_vOr, w_vNot, w_neg, w_tup, w_lstF, w_lstC, w_chain, w_fld, w_sl, w_oN, w_oS, w_isLs, w_isSt, w_me, w_meth, w_methS, w_make, w_fmt, w_frz, w_isi, s_seq, s_next, s_set, s_asg, s_expr, s_ret, s_retN, s_if, s_cnt, s_brk, s_no, s_par, s_par3, s_tp, s_gsNil, s_gsCons, s_fld, s_fldT, s_sub, s_aug, s_fldA, s_augS, s_for, w_lc, w_src, w_srcL, w_srcT, w_srcS, w_srcR, w_rng1, wO_some, wO_none, List.getElem?_cons_zero, List.getElem?_cons_succ, List.set_cons_zero, List.set_cons_succ, fin_v, fin_lF, fin_lT, l_ref (c1 _ _ _), l_ref (c0 _ _ _), o_lenC (c0 _ _ _), sgs_len]
    refine take_ok' hB1 (by omega) (by omega) fun r o' h0 h1 hB2 => ?_
    obtain ⟨q, rfl⟩ := nat_of h0 h1
    have hq : q < left.length := by omega
    have hc := List.getElem?_eq_getElem hq
    rw [List.set_set] at hB2 ⊢
    have p1 := o_popAt (μ := μ.set k o' ++ [.lst (sgs left), .lst (sgs found)]) (new_at0 (hN _)) (by omega) (sgs_at hc)
    rw [p1, wO_some, new_set0 (hN _), sgs_erase]
    have p2 := o_append (d := .str [left[q]]) (μ := μ.set k o' ++ [.lst (sgs (left.eraseIdx q)), .lst (sgs found)]) (new_at (j := 1) (hN _)) (by rw [sgs_len]; show found.length < 1000000; omega)
    show wO (gAppend (.ref (μ.length + 1)) [.str [left[q]]] (μ.set k o' ++ [.lst (sgs (left.eraseIdx q)), .lst (sgs found)])) _
    rw [p2, wO_some, new_set (hN _)]
    refine ⟨o', left.eraseIdx q, found ++ [left[q]], _, rfl, ?_, hB2, ?_, by simp [hf]⟩
    · simp [sgs]
    · have e1 := erase_sub hc
      refine List.Perm.trans ?_ hp
      rw [← List.append_assoc]
      refine (List.perm_append_singleton _ _).trans ?_
      exact e1.append_right found
  · rintro Γ1 μ1 ⟨o, left, found, x, rfl, rfl, hB1, hp, hf⟩
    have hN : ∀ o, (μ.set k o).length = μ.length := fun o => by simp
    have hf' : found.length = m := by simpa [intsD] using hf
    have hnd : (left ++ found).Nodup := hp.nodup_iff.mpr (by decide)
    obtain ⟨q, hq, hqp, hqa⟩ := sort_sgs found (List.nodup_append.mp hnd).2.1
    have e : gSortS [.ref (μ.length + 1)] (μ.set k o ++ [.lst (sgs left), .lst (sgs found)]) = some (.l (sgs q)) := by
      unfold gSortS
      simp only [l_ref (show (μ.set k o ++ [O.lst (sgs left), O.lst (sgs found)])[μ.length + 1]? = some (.lst (sgs found)) from new_at (j := 1) (hN _)), strs_sgs]
      rw [if_pos ⟨by simp; omega, by simp⟩, hq]
      simp [sgs]
    simp only [w_bnd, w_ret, w_eC, w_var, w_opS, w_op, w_N, w_CB, w_CS, w_nil, w_cons, w_call, w_if, w_B, w_and, w_or, w_not, w_vAnd, w_vOr, w_vNot, w_neg, w_tup, w_lstF, w_lstC, w_chain, w_fld, w_sl, w_oN, w_oS, w_isLs, w_isSt, w_me, w_meth, w_methS, w_make, w_fmt, w_frz, w_isi, s_seq, s_next, s_set, s_asg, s_expr, s_ret, s_retN, s_if, s_cnt, s_brk, s_no, s_par, s_par3, s_tp, s_gsNil, s_gsCons, s_fld, s_fldT, s_sub, s_aug, s_fldA, s_augS, s_for, w_lc, w_src, w_srcL, w_srcT, w_srcS, w_srcR, w_rng1, wO_some, wO_none, List.getElem?_cons_zero, List.getElem?_cons_succ, List.set_cons_zero, List.set_cons_succ, fin_v, fin_lF, fin_lT, e]
    rw [leave_app (ν := μ.set k o) (d' := .lst (sgs q)) (hN _) (fun j o' h => ?_) rfl (by simp only [refsLt]; exact refs_sgs q)]
    · refine hQ q o ?_ hqa (fun c hc => ?_) (hB1.mono ?_)
      · rw [hqp.length_eq, hf']
      · exact hp.mem_iff.mp (List.mem_append_right _ (hqp.mem_iff.mp hc))
      · have : (intsD 0 m).length = m := by simp [intsD]
        omega
    · by_cases hj : j = k
      · subst hj
        obtain ⟨a, b, c, h1, _⟩ := hB1
        rw [h1] at h
        cases h
        exact .inr rfl
      · rw [List.getElem?_set_ne (Ne.symm hj)] at h
        exact .inl h
end K01

set_option maxRecDepth 100000
set_option maxHeartbeats 1000000
namespace K01
open PySem L2 PyProof.Rows PySem.Spec Ab
/-! ### what a drawn pattern is -/
structure At where
  ps : List (List Nat)
  w : List Nat
  c : Nat
  t : D
def All2 {α β : Type} (R : α → β → Prop) (xs : List α) (ys : List β) : Prop := xs.length = ys.length ∧ ∀ (i : Nat) x y, xs[i]? = some x → ys[i]? = some y → R x y
theorem All2.nil {α β : Type} {R : α → β → Prop} : All2 R [] [] := ⟨rfl, fun i x y h => by simp at h⟩
theorem All2.snoc {α β : Type} {R : α → β → Prop} {xs : List α} {ys : List β} {x : α} {y : β} (h : All2 R xs ys) (r : R x y) : All2 R (xs ++ [x]) (ys ++ [y]) := by
  refine ⟨by simp [h.1], fun i a b h1 h2 => ?_⟩
  by_cases hi : i < xs.length
  · rw [List.getElem?_append_left hi] at h1
    rw [List.getElem?_append_left (by rw [← h.1]; exact hi)] at h2
    exact h.2 i a b h1 h2
  · rw [List.getElem?_append_right (by omega)] at h1
    rw [List.getElem?_append_right (by rw [← h.1]; omega), ← h.1] at h2
    have : i - xs.length = 0 := by
      have := (List.getElem?_eq_some_iff.mp h1).1
      simp at this
      omega
    rw [this] at h1 h2
    simp at h1 h2
    subst h1; subst h2
    exact r
theorem All2.imp {α β : Type} {R R' : α → β → Prop} {xs : List α} {ys : List β} (h : All2 R xs ys) (i : ∀ x y, R x y → R' x y) : All2 R' xs ys := ⟨h.1, fun j x y h1 h2 => i x y (h.2 j x y h1 h2)⟩
def sText : D := .str [116, 101, 120, 116]
def sSetW : D := .str [115, 101, 116]
def sGroup : D := .str [103, 114, 111, 117, 112]
def tOne (l : List Nat) : D := .tup [.str [111, 110, 101], .lst [.str l]]
def tAll (ts : List D) : D := .tup [.str [97, 108, 108], .lst ts]
def tOr (ts : List D) : D := .tup [.str [111, 114], .lst ts]
def sgT (s : List Nat) (t : D) : D := if s = [] then t else .tup [.str s, .lst [t]]
def sgP (s : List Nat) : List (List Nat) := List.replicate s.length s
def IsSg (s : List Nat) : Prop := s ∈ ([[], [42], [43], [63]] : List (List Nat))
def Lt (l : List Nat) : Prop := ∀ c ∈ l, c ∈ abc
/-- the items of a branch, as one; the branches, as one -/
def bAt (is : List At) : At := ⟨(is.map (·.ps)).flatten, TL.joinL [32] (is.map (·.w)), (is.map (·.c)).sum, tAll (is.map (·.t))⟩
def psB (bs : List At) : List (List Nat) := ((bs.map fun a => a.ps ++ [[124]]).flatten).dropLast
def wB (bs : List At) : List Nat := TL.joinL [32, 124, 32] (bs.map (·.w))
def cB (bs : List At) : Nat := (bs.map (·.c)).sum
def ItP (B : List D → List At → Prop) (d : D) (a : At) : Prop := ∃ s, IsSg s ∧
  ((∃ l, 1 ≤ l.length ∧ l.length ≤ 6 ∧ Lt l ∧ d = .tup [sText, .str l, .str s] ∧ a = ⟨(34 :: l ++ [34]) :: sgP s, (34 :: l ++ [34]) ++ s, l.length, sgT s (tAll (l.map fun c => tOne [c]))⟩) ∨
  (∃ l, 1 ≤ l.length ∧ l.length ≤ 8 ∧ Asc l ∧ Lt l ∧ d = .tup [sSetW, .str l, .str s] ∧ a = ⟨(91 :: l ++ [93]) :: sgP s, (91 :: l ++ [93]) ++ s, 1, sgT s (tOne l)⟩) ∨
  (∃ bs as, B bs as ∧ d = .tup [sGroup, .lst bs, .str s] ∧ a = ⟨[40] :: (psB as ++ [41] :: sgP s), (40 :: wB as ++ [41]) ++ s, cB as, sgT s (tOr (as.map (·.t)))⟩))
def BrsP (I : D → At → Prop) (bs : List D) (as : List At) : Prop := bs ≠ [] ∧ bs.length ≤ 3 ∧ All2 (fun d a => ∃ ds is, d = .lst ds ∧ ds ≠ [] ∧ ds.length ≤ 4 ∧ All2 I ds is ∧ a = bAt is) bs as
def ItR : Nat → D → At → Prop
  | 0 => ItP fun _ _ => False
  | n + 1 => ItP (BrsP (ItR n))
/-- the store with two cells changed -/
theorem set2_set2 {μ : Sto} {k q : Nat} {a b c d : O} (h : k ≠ q) : (((μ.set k a).set q b).set k c).set q d = (μ.set k c).set q d := by
  rw [List.set_comm b c (Ne.symm h), List.set_set, List.set_set]
theorem self2 {μ : Sto} {k q : Nat} {a b : O} (h1 : μ[k]? = some a) (h2 : μ[q]? = some b) : (μ.set k a).set q b = μ := by
  apply List.ext_getElem?
  intro i
  by_cases hi : i = q
  · subst hi
    rw [List.getElem?_set_self (by simpa using lt_at h2), h2]
  · rw [List.getElem?_set_ne (Ne.symm hi)]
    by_cases hj : i = k
    · subst hj; rw [set_at (lt_at h1), h1]
    · rw [List.getElem?_set_ne (Ne.symm hj)]
theorem app2 {ν l : Sto} {k q : Nat} {a b : O} (hk : k < ν.length) (hq : q < ν.length) : ((ν ++ l).set k a).set q b = (ν.set k a).set q b ++ l := by
  rw [old_set hk, old_set (by simpa using hq)]
end K01

set_option maxRecDepth 100000
set_option maxHeartbeats 1000000
namespace K01
open PySem L2 PyProof.Rows PySem.Spec Ab
/-- a bag at k and what is left at q -/
def Two (μ : Sto) (k q n L : Nat) : Prop := Bag μ k n ∧ μ[q]? = some (.lst [.int (L : Int)]) ∧ k ≠ q
theorem Two.app {ν l : Sto} {k q n L : Nat} (h : Two ν k q n L) : Two (ν ++ l) k q n L := ⟨h.1.app, by rw [List.getElem?_append_left (lt_at h.2.1)]; exact h.2.1, h.2.2⟩
theorem Two.bag {μ : Sto} {k q n m L : Nat} {o : O} (h : Two μ k q n L) (hB : Bag (μ.set k o) k m) : Two (μ.set k o) k q m L := ⟨hB, by rw [List.getElem?_set_ne h.2.2]; exact h.2.1, h.2.2⟩
theorem Two.put {μ : Sto} {k q n L M : Nat} (h : Two μ k q n L) : Two (μ.set q (.lst [.int (M : Int)])) k q n M := by
  obtain ⟨⟨a, b, c, h1, h2⟩, h3, h4⟩ := h
  exact ⟨⟨a, b, c, by rw [List.getElem?_set_ne (Ne.symm h4)]; exact h1, h2⟩, set_at (lt_at h3), h4⟩
/-- changed at k and q alone -/
def Up (k q : Nat) (μ μ' : Sto) : Prop := ∃ a b, μ' = (μ.set k a).set q b
theorem Up.refl {μ : Sto} {k q n L : Nat} (h : Two μ k q n L) : Up k q μ μ := by
  obtain ⟨⟨a, b, c, h1, h2⟩, h3, h4⟩ := h
  exact ⟨_, _, (self2 h1 h3).symm⟩
theorem Up.k {μ μ' : Sto} {k q : Nat} {o : O} (hkq : k ≠ q) (h : Up k q μ μ') : Up k q μ (μ'.set k o) := by
  obtain ⟨a, b, rfl⟩ := h
  exact ⟨o, b, by rw [List.set_comm b o (Ne.symm hkq), List.set_set]⟩
theorem Up.q {μ μ' : Sto} {k q : Nat} {o : O} (h : Up k q μ μ') : Up k q μ (μ'.set q o) := by
  obtain ⟨a, b, rfl⟩ := h
  exact ⟨a, o, by rw [List.set_set]⟩
theorem Up.trans {μ μ' μ'' : Sto} {k q : Nat} (hkq : k ≠ q) (h : Up k q μ μ') (g : Up k q μ' μ'') : Up k q μ μ'' := by
  obtain ⟨a, b, rfl⟩ := h
  obtain ⟨c, d, rfl⟩ := g
  exact ⟨c, d, set2_set2 hkq⟩
theorem Up.len {μ μ' : Sto} {k q : Nat} (h : Up k q μ μ') : μ'.length = μ.length := by
  obtain ⟨a, b, rfl⟩ := h
  simp
theorem Up.tidy {μ μ' : Sto} {k q n L : Nat} (h : Up k q μ μ') (t : Two μ' k q n L) : ∀ (i : Nat) o, μ'[i]? = some o → μ[i]? = some o ∨ refsO μ.length o = true := by
  intro i o hi
  obtain ⟨⟨a, b, c, h1, _⟩, h3, h4⟩ := t
  by_cases e1 : i = k
  · subst e1; rw [h1] at hi; cases hi; exact .inr rfl
  · by_cases e2 : i = q
    · subst e2; rw [h3] at hi; cases hi; exact .inr rfl
    · obtain ⟨x, y, rfl⟩ := h
      rw [List.getElem?_set_ne (Ne.symm e2), List.getElem?_set_ne (Ne.symm e1)] at hi
      exact .inl hi
def NoRef (d : D) : Prop := ∀ n, refsLt n d = true
/-- take and of, beside cells -/
theorem take2 {ν l : Sto} {k q n L : Nat} {many : Int} (h : Two ν k q n L) (hm : 0 < many ∧ many < 1000) (hn : n < 100000000000) {Q : D → Sto → Prop}
    (hQ : ∀ r ν', 0 ≤ r → r < many → Two ν' k q (n + 1) L → Up k q ν ν' → Q (.int r) (ν' ++ l)) : wF F_l_take [.ref k, .int many] (ν ++ l) Q :=
  take_ok' h.1 hm hn fun r o h0 h1 hB => hQ r _ h0 h1 (h.bag hB) ((Up.refl h).k h.2.2)
theorem of2 {ν l : Sto} {k q n L : Nat} {ds : List D} (h : Two ν k q n L) (hd : 0 < ds.length ∧ ds.length < 1000) (hn : n < 100000000000) {Q : D → Sto → Prop}
    (hQ : ∀ (i : Nat) d ν', ds[i]? = some d → Two ν' k q (n + 1) L → Up k q ν ν' → Q d (ν' ++ l)) : wF F_l_of [.ref k, .lst ds] (ν ++ l) Q :=
  of_ok h.1.app hd hn fun i d o hi hB => by
    rw [old_set h.1.lt] at hB ⊢
    exact hQ i d _ hi (h.bag (hB.left (by simpa using h.1.lt))) ((Up.refl h).k h.2.2)
end K01

set_option maxRecDepth 100000
set_option maxHeartbeats 1000000
namespace K01
open PySem L2 PyProof.Rows PySem.Spec Ab
theorem take3 {ν : Sto} {k q n L : Nat} {many : Int} (h : Two ν k q n L) (hm : 0 < many ∧ many < 1000) (hn : n < 100000000000) {Q : D → Sto → Prop}
    (hQ : ∀ r ν', 0 ≤ r → r < many → Two ν' k q (n + 1) L → Up k q ν ν' → Q (.int r) ν') : wF F_l_take [.ref k, .int many] ν Q := by
  have := take2 (l := []) (Q := Q) h hm hn fun r ν' a b c d => by simpa using hQ r ν' a b c d
  simpa using this
theorem of3 {ν : Sto} {k q n L : Nat} {ds : List D} (h : Two ν k q n L) (hd : 0 < ds.length ∧ ds.length < 1000) (hn : n < 100000000000) {Q : D → Sto → Prop}
    (hQ : ∀ (i : Nat) d ν', ds[i]? = some d → Two ν' k q (n + 1) L → Up k q ν ν' → Q d ν') : wF F_l_of [.ref k, .lst ds] ν Q := by
  have := of2 (l := []) (Q := Q) h hd hn fun i d ν' a b c => by simpa using hQ i d ν' a b c
  simpa using this
mutual
def bI : Nat → Nat
  | 0 => 0
  | n + 1 => 60 + bB n
def bB : Nat → Nat
  | n => 16 * bI n + 100
end
def GenI (n : Nat) : Prop := ∀ (μ : Sto) (k q N L : Nat) (lt : List Nat) (deep : Nat) (Q : D → Sto → Prop), Two μ k q N L → 1 ≤ L → L ≤ 9 → 1 ≤ lt.length → lt.length ≤ 8 → Asc lt → Lt lt → deep < n → N + bI n ≤ 50000000000 →
  (∀ d a μ' M, ItR deep d a → a.c + M = L → 1 ≤ a.c → Two μ' k q (N + bI n) M → Up k q μ μ' → NoRef d → Q d μ') → wF (F_l_item n) [.ref k, .lst (sgs lt), .int (deep : Int), .ref q] μ Q
def GenB (n : Nat) : Prop := ∀ (μ : Sto) (k q N L : Nat) (lt : List Nat) (deep : Nat) (Q : D → Sto → Prop), Two μ k q N L → 1 ≤ L → L ≤ 9 → 1 ≤ lt.length → lt.length ≤ 8 → Asc lt → Lt lt → deep < n → N + bB n ≤ 50000000000 →
  (∀ bs as μ' M, BrsP (ItR deep) bs as → cB as + M = L → 1 ≤ cB as → Two μ' k q (N + bB n) M → Up k q μ μ' → NoRef (.lst bs) → Q (.lst bs) μ') → wF (F_l_branches n) [.ref k, .lst (sgs lt), .int (deep : Int), .ref q] μ Q
theorem itR_of {deep : Nat} {d : D} {a : At} (h : ∀ B, ItP B d a) : ItR deep d a := by
  cases deep with
  | zero => exact h _
  | succ n => exact h _
theorem q_seq {a b : SM} {Γ : Env'} {μ : Sto} {K : KS} (I : Env' → Sto → Prop) (h : wS a Γ μ { n := I, r := K.r, b := K.b, c := K.c }) (k : ∀ Γ' μ', I Γ' μ' → wS b Γ' μ' K) : wS (sSeq a b) Γ μ K := by
  rw [s_seq]
  exact h.imp k (fun _ _ h => h) (fun _ _ h => h) (fun _ _ h => h)
theorem noref_str (l : List Nat) : NoRef (.str l) := fun n => rfl
theorem noref_tup {ds : List D} (h : ∀ n, refsLts n ds = true) : NoRef (.tup ds) := fun n => by simp only [refsLt]; exact h n
theorem noref3 {a b c : D} (ha : NoRef a) (hb : NoRef b) (hc : NoRef c) : NoRef (.tup [a, b, c]) := fun n => by simp [refsLt, refsLts, ha n, hb n, hc n]
/-- the text of signs -/
theorem join_sgs (l : List Nat) : ∀ m : List Nat, TL.joinL [] (m.map fun c => [c]) = m
  | [] => rfl
  | [c] => rfl
  | c :: d :: m => by
    show [c] ++ [] ++ TL.joinL [] ((d :: m).map fun c => [c]) = _
    rw [join_sgs l (d :: m)]
    rfl
theorem o_joinS {μ : Sto} {x : D} {m : List Nat} (hx : asSeq μ x = some (sgs m)) (hm : m.length ≤ 1000) : gJoin (.str []) [x] μ = some (.str m, μ) := by
  simp only [gJoin, hx, strs_sgs]
  rw [if_pos]
  · rw [join_sgs m]
  · have : ((m.map fun c => [c]).map (·.length)).sum = m.length := by
      clear hx hm
      induction m with
      | nil => rfl
      | cons c m ih => simp at ih ⊢; omega
    rw [this]
    show m.length + (m.map fun c => [c]).length * 0 ≤ 1000000
    omega
theorem item_step {n : Nat} (hB : GenB n) : GenI (n + 1) := by
  intro μ k q N L lt deep Q hT hL1 hL9 hl1 hl8 hA hLt hd hN hQ
  have hb : bI (n + 1) = 60 + bB n := by simp [bI]
  have hkq := hT.2.2
  show wF (body 9 4 (m_l_item F_l_of F_l_take (F_l_branches n))) _ μ Q
  rw [f_body]
  refine ⟨rfl, ?_⟩
  show wS _ [some (.ref k), some (.lst (sgs lt)), some (.int (deep : Int)), some (.ref q), none, none, none, none, none] μ _
  unfold m_l_item
  refine q_seq (fun Γ' μ' => ∃ (r : Int) (s : List Nat), Γ' = [some (.ref k), some (.lst (sgs lt)), some (.int (deep : Int)), some (.ref q), some (.int r), some (.str s), none, none, none] ∧ 0 ≤ r ∧ r < 4 ∧ IsSg s ∧ Two μ' k q (N + 2) L ∧ Up k q μ μ') ?_ ?_
  · simp only [w_bnd, w_ret, w_eC, w_var, w_opS, w_op, w_N, w_CB, w_CS, w_nil, w_cons, w_call, w_if, w_B, w_and, w_or, w_not, w_vAnd, w_vOr, w_vNot, w_neg, w_tup, w_lstF, w_lstC, w_chain, w_fld, w_sl, w_oN, w_oS, w_isLs, w_isSt, w_me, w_meth, w_methS, w_make, w_fmt, w_frz, w_isi, s_seq, s_next, s_set, s_asg, s_expr, s_ret, s_retN, s_if, s_cnt, s_brk, s_no, s_par, s_par3, s_tp, s_gsNil, s_gsCons, s_fld, s_fldT, s_sub, s_aug, s_fldA, s_augS, s_for, w_lc, w_src, w_srcL, w_srcT, w_srcS, w_srcR, w_rng1, wO_some, wO_none, List.getElem?_cons_zero, List.getElem?_cons_succ, List.set_cons_zero, List.set_cons_succ, fin_v, fin_lF, fin_lT]
    refine take3 hT (by decide) (by omega) fun r ν1 h0 h1 hT1 hU1 => ?_
    refine ⟨by decide, of3 hT1 (by decide) (by omega) fun i s ν2 hs hT2 hU2 => ?_⟩
    obtain ⟨s, rfl, hsg⟩ : ∃ s', s = .str s' ∧ IsSg s' := by
      rcases i with _ | _ | _ | _ | _ | _ | _ | i <;> simp at hs
      all_goals (subst hs; exact ⟨_, rfl, by simp [IsSg]⟩)
    exact ⟨_, _, rfl, r, s, rfl, h0, h1, hsg, hT2, hU1.trans hkq hU2⟩
  rintro Γ' ν2 ⟨r, s, rfl, h0, h1, hsg, hT2, hU⟩
  have x0 : gIx (.ref q) (.int 0) ν2 = some (.int (L : Int), ν2) := o_ixC (i := 0) hT2.2.1 rfl
  refine q_seq (fun Γ' μ' => Γ' = [some (.ref k), some (.lst (sgs lt)), some (.int (deep : Int)), some (.ref q), some (.int r), some (.str s), none, none, none] ∧ μ' = ν2) ?_ ?_
  · simp only [w_bnd, w_ret, w_eC, w_var, w_opS, w_op, w_N, w_CB, w_CS, w_nil, w_cons, w_call, w_if, w_B, w_and, w_or, w_not, w_vAnd, w_vOr, w_vNot, w_neg, w_tup, w_lstF, w_lstC, w_chain, w_fld, w_sl, w_oN, w_oS, w_isLs, w_isSt, w_me, w_meth, w_methS, w_make, w_fmt, w_frz, w_isi, s_seq, s_next, s_set, s_asg, s_expr, s_ret, s_retN, s_if, s_cnt, s_brk, s_no, s_par, s_par3, s_tp, s_gsNil, s_gsCons, s_fld, s_fldT, s_sub, s_aug, s_fldA, s_augS, s_for, w_lc, w_src, w_srcL, w_srcT, w_srcS, w_srcR, w_rng1, wO_some, wO_none, List.getElem?_cons_zero, List.getElem?_cons_succ, List.set_cons_zero, List.set_cons_succ, fin_v, fin_lF, fin_lT, o_eqI, o_gt, x0, o_sub]
    refine ⟨_, rfl, ?_⟩
    by_cases h3 : r = 3
    · simp only [h3, decide_true, Bool.false_eq_true, if_false, if_true]
      refine ⟨_, rfl, ?_⟩
      by_cases hdp : 0 < (deep : Int)
      · simp only [hdp, decide_true, if_true]
        refine ⟨_, rfl, ?_⟩
        by_cases hL : 1 < (L : Int)
        · simp only [hL, decide_true, if_true]
          obtain ⟨dp, rfl⟩ : ∃ dp, deep = dp + 1 := ⟨deep - 1, by omega⟩
          have e1 : ((dp + 1 : Nat) : Int) - 1 = (dp : Int) := by omega
          rw [e1]
          refine hB ν2 k q (N + 2) L lt dp _ hT2 (by omega) hL9 hl1 hl8 hA hLt (by omega) (by omega) fun bs as μ' M hR hc hc1 hT3 hU3 hnr => ?_
          have hU4 := hU.trans hkq hU3
          refine ⟨by simp, ?_⟩
          rw [leave_same hU4.len]
          refine hQ _ _ μ' M (show ItR (dp + 1) _ _ from ⟨s, hsg, .inr (.inr ⟨bs, as, hR, rfl, rfl⟩)⟩) hc hc1 ⟨hT3.1.mono (by omega), hT3.2⟩ hU4 (noref3 (noref_str _) hnr (noref_str _))
        · simp only [hL, decide_false, Bool.false_eq_true, if_false]
          exact ⟨by first | trivial | rfl, by first | trivial | rfl⟩
      · simp only [hdp, decide_false, Bool.false_eq_true, if_false]
        exact ⟨by first | trivial | rfl, by first | trivial | rfl⟩
    · simp only [h3, decide_false, Bool.false_eq_true, if_false]
      exact ⟨by first | trivial | rfl, by first | trivial | rfl⟩
  rintro Γ' μ' ⟨rfl, e⟩
  rw [e]
  clear e μ'
  refine q_seq (fun Γ' μ' => Γ' = [some (.ref k), some (.lst (sgs lt)), some (.int (deep : Int)), some (.ref q), some (.int r), some (.str s), none, none, none] ∧ μ' = ν2) ?_ ?_
  · simp only [w_bnd, w_ret, w_eC, w_var, w_opS, w_op, w_N, w_CB, w_CS, w_nil, w_cons, w_call, w_if, w_B, w_and, w_or, w_not, w_vAnd, w_vOr, w_vNot, w_neg, w_tup, w_lstF, w_lstC, w_chain, w_fld, w_sl, w_oN, w_oS, w_isLs, w_isSt, w_me, w_meth, w_methS, w_make, w_fmt, w_frz, w_isi, s_seq, s_next, s_set, s_asg, s_expr, s_ret, s_retN, s_if, s_cnt, s_brk, s_no, s_par, s_par3, s_tp, s_gsNil, s_gsCons, s_fld, s_fldT, s_sub, s_aug, s_fldA, s_augS, s_for, w_lc, w_src, w_srcL, w_srcT, w_srcS, w_srcR, w_rng1, wO_some, wO_none, List.getElem?_cons_zero, List.getElem?_cons_succ, List.set_cons_zero, List.set_cons_succ, fin_v, fin_lF, fin_lT, o_eqI]
    refine ⟨_, rfl, ?_⟩
    by_cases h3 : r = 0
    · simp only [h3, decide_true, Bool.false_eq_true, if_false, if_true]
      have eL : gList [.lst (sgs lt)] ν2 = some (.l (sgs lt)) := rfl
      simp only [eL, wO_some, fin_lT, o_lenL, fin_v, o_sub, o_min, sgs_len]
      have emin : (if (lt.length : Int) < 4 then (lt.length : Int) else 4) = ((min lt.length 4 : Nat) : Int) := by
        split <;> omega
      rw [emin]
      refine take2 hT2 (by omega) (by omega) fun t ν3 t0 t1 hT3 hU3 => ?_
      obtain ⟨t, rfl⟩ := nat_of t0 t1
      have ht : t < min lt.length 4 := by omega
      simp only [wO_some, o_sub, fin_v]
      refine ⟨_, rfl, by omega, ?_⟩
      have e1 : ((lt.length : Int) - 1 - (t : Int)).toNat = lt.length - 1 - t := by omega
      rw [e1]
      refine s_fix (fun i Γ1 μ1 => ∃ (ν : Sto) (m : List Nat) (x : Option D), Γ1 = [some (.ref k), some (.lst (sgs lt)), some (.int (deep : Int)), some (.ref q), some (.int 0), some (.str s), some (.ref ν2.length), x, none] ∧ μ1 = ν ++ [.lst (sgs m)] ∧ Two ν k q (N + 3 + i) L ∧ Up k q μ ν ∧ m.Sublist lt ∧ m.length + i = lt.length) ?_ ?_ ?_
      · exact ⟨ν3, lt, none, rfl, rfl, hT3, hU.trans hkq hU3, List.Sublist.refl _, rfl⟩
      · rintro i d Γ1 μ1 hd1 ⟨ν, m, x, rfl, rfl, hTν, hUν, hm, hml⟩
        have hi : i < lt.length - 1 - t := by
          have := (List.getElem?_eq_some_iff.mp hd1).1
          simpa [intsD] using this
        have hNν : ν.length = ν2.length := by rw [hUν.len, hU.len]
        have c0 : ∀ (ν : Sto) l, ν.length = ν2.length → (ν ++ [O.lst l])[ν2.length]? = some (.lst l) := fun ν l h => new_at0 h
        simp only [w_bnd, w_ret, w_eC, w_var, w_opS, w_op, w_N, w_CB, w_CS, w_nil, w_cons, w_call, w_if, w_B, w_and, w_or, w_not, w_vAnd, w_vOr, w_vNot, w_neg, w_tup, w_lstF, w_lstC, w_chain, w_fld, w_sl, w_oN, w_oS, w_isLs, w_isSt, w_me, w_meth, w_methS, w_make, w_fmt, w_frz, w_isi, s_seq, s_next, s_set, s_asg, s_expr, s_ret, s_retN, s_if, s_cnt, s_brk, s_no, s_par, s_par3, s_tp, s_gsNil, s_gsCons, s_fld, s_fldT, s_sub, s_aug, s_fldA, s_augS, s_for, w_lc, w_src, w_srcL, w_srcT, w_srcS, w_srcR, w_rng1, wO_some, wO_none, List.getElem?_cons_zero, List.getElem?_cons_succ, List.set_cons_zero, List.set_cons_succ, fin_v, fin_lF, fin_lT, l_ref (c0 _ _ hNν), o_lenC (c0 _ _ hNν), sgs_len]
        refine take2 hTν (by omega) (by omega) fun u ν' u0 u1 hT' hU' => ?_
        obtain ⟨u, rfl⟩ := nat_of u0 u1
        have hu : u < m.length := by omega
        have hN' : ν'.length = ν2.length := by rw [hU'.len, hNν]
        have p1 := o_popAt (μ := ν' ++ [.lst (sgs m)]) (c0 _ _ hN') (by omega) (sgs_at (List.getElem?_eq_getElem hu))
        rw [p1, wO_some, new_set0 hN', sgs_erase]
        refine ⟨ν', m.eraseIdx u, _, rfl, rfl, ⟨hT'.1.mono (by omega), hT'.2⟩, hUν.trans hkq hU', (List.eraseIdx_sublist m u).trans hm, ?_⟩
        rw [List.length_eraseIdx_of_lt hu]
        omega
      · rintro Γ1 μ1 ⟨ν, m, x, rfl, rfl, hTν, hUν, hm, hml⟩
        have hml' : m.length = 1 + t := by
          have : (intsD 0 (lt.length - 1 - t)).length = lt.length - 1 - t := by simp [intsD]
          omega
        have hNν : ν.length = ν2.length := by rw [hUν.len, hU.len]
        have c0 : ∀ (ν : Sto) l, ν.length = ν2.length → (ν ++ [O.lst l])[ν2.length]? = some (.lst l) := fun ν l h => new_at0 h
        have hqν : q < ν.length := lt_at hTν.2.1
        have y0 : gIx (.ref q) (.int 0) (ν ++ [.lst (sgs m)]) = some (.int (L : Int), ν ++ [.lst (sgs m)]) := o_ixC (i := 0) (by rw [List.getElem?_append_left hqν]; exact hTν.2.1) rfl
        have y1 : setIx (.ref q) (.int 0) (.int ((L : Int) - 1)) (ν ++ [.lst (sgs m)]) = some (ν.set q (.lst [.int ((L - 1 : Nat) : Int)]) ++ [.lst (sgs m)]) := by
          have := o_setC (i := 0) (d := .int ((L : Int) - 1)) (show (ν ++ [O.lst (sgs m)])[q]? = some (.lst [.int (L : Int)]) by rw [List.getElem?_append_left hqν]; exact hTν.2.1) (by simp)
          rw [old_set hqν] at this
          have e : ((L - 1 : Nat) : Int) = (L : Int) - 1 := by omega
          rw [e]
          exact this
        simp only [w_bnd, w_ret, w_eC, w_var, w_opS, w_op, w_N, w_CB, w_CS, w_nil, w_cons, w_call, w_if, w_B, w_and, w_or, w_not, w_vAnd, w_vOr, w_vNot, w_neg, w_tup, w_lstF, w_lstC, w_chain, w_fld, w_sl, w_oN, w_oS, w_isLs, w_isSt, w_me, w_meth, w_methS, w_make, w_fmt, w_frz, w_isi, s_seq, s_next, s_set, s_asg, s_expr, s_ret, s_retN, s_if, s_cnt, s_brk, s_no, s_par, s_par3, s_tp, s_gsNil, s_gsCons, s_fld, s_fldT, s_sub, s_aug, s_fldA, s_augS, s_for, w_lc, w_src, w_srcL, w_srcT, w_srcS, w_srcR, w_rng1, wO_some, wO_none, List.getElem?_cons_zero, List.getElem?_cons_succ, List.set_cons_zero, List.set_cons_succ, fin_v, fin_lF, fin_lT, y0, o_sub, y1]
        have hT5 := hTν.put (M := L - 1)
        have hU5 : Up k q μ (ν.set q (.lst [.int ((L - 1 : Nat) : Int)])) := hUν.q
        have hN5 : (ν.set q (.lst [.int ((L - 1 : Nat) : Int)])).length = ν2.length := by simp [hNν]
        have j := o_joinS (μ := ν.set q (.lst [.int ((L - 1 : Nat) : Int)]) ++ [.lst (sgs m)]) (x := .ref ν2.length) (m := m) (by simp [asSeq, l_ref (c0 _ _ hN5)]) (by omega)
        refine ⟨_, rfl, ?_⟩
        simp only [j, wO_some]
        refine ⟨by simp, ?_⟩
        rw [leave_app (ν := ν.set q (.lst [.int ((L - 1 : Nat) : Int)])) (d' := .tup [sSetW, .str m, .str s]) (by rw [hN5, hU.len]) (fun i o h => hU5.tidy hT5 i o h) rfl rfl]
        refine hQ _ ⟨(91 :: m ++ [93]) :: sgP s, (91 :: m ++ [93]) ++ s, 1, sgT s (tOne m)⟩ _ (L - 1) (itR_of fun B => ⟨s, hsg, .inr (.inl ⟨m, by omega, by omega, hA.sublist hm, fun c hc => hLt c (hm.subset hc), rfl, rfl⟩)⟩) (by show 1 + (L - 1) = L; omega) (Nat.le_refl 1) ⟨hT5.1.mono ?_, hT5.2⟩ hU5 (noref3 (noref_str _) (noref_str _) (noref_str _))
        have : (intsD 0 (lt.length - 1 - t)).length = lt.length - 1 - t := by simp [intsD]
        omega
    · simp only [h3, decide_false, Bool.false_eq_true, if_false]
      exact ⟨by first | trivial | rfl, by first | trivial | rfl⟩
  rintro Γ' μ' ⟨rfl, e⟩
  rw [e]
  clear e μ'
  have emin : (if (L : Int) < 3 then (L : Int) else 3) = ((min L 3 : Nat) : Int) := by
    split <;> omega
  simp only [w_bnd, w_ret, w_eC, w_var, w_opS, w_op, w_N, w_CB, w_CS, w_nil, w_cons, w_call, w_if, w_B, w_and, w_or, w_not, w_vAnd, w_vOr, w_vNot, w_neg, w_tup, w_lstF, w_lstC, w_chain, w_fld, w_sl, w_oN, w_oS, w_isLs, w_isSt, w_me, w_meth, w_methS, w_make, w_fmt, w_frz, w_isi, s_seq, s_next, s_set, s_asg, s_expr, s_ret, s_retN, s_if, s_cnt, s_brk, s_no, s_par, s_par3, s_tp, s_gsNil, s_gsCons, s_fld, s_fldT, s_sub, s_aug, s_fldA, s_augS, s_for, w_lc, w_src, w_srcL, w_srcT, w_srcS, w_srcR, w_rng1, wO_some, wO_none, List.getElem?_cons_zero, List.getElem?_cons_succ, List.set_cons_zero, List.set_cons_succ, fin_v, fin_lF, fin_lT, x0, o_min, emin]
  refine take3 hT2 (by omega) (by omega) fun t ν3 t0 t1 hT3 hU3 => ?_
  obtain ⟨t, rfl⟩ := nat_of t0 t1
  have ht : t < min L 3 := by omega
  have y0 : gIx (.ref q) (.int 0) ν3 = some (.int (L : Int), ν3) := o_ixC (i := 0) hT3.2.1 rfl
  have y1 : setIx (.ref q) (.int 0) (.int ((L : Int) - (1 + (t : Int)))) ν3 = some (ν3.set q (.lst [.int ((L - 1 - t : Nat) : Int)])) := by
    have := o_setC (i := 0) (d := .int ((L : Int) - (1 + (t : Int)))) hT3.2.1 (by simp)
    have e : ((L - 1 - t : Nat) : Int) = (L : Int) - (1 + (t : Int)) := by omega
    rw [e]
    exact this
  simp only [wO_some, fin_v, o_add, y0, o_sub, y1]
  have hT4 := hT3.put (M := L - 1 - t)
  have hU4 : Up k q μ (ν3.set q (.lst [.int ((L - 1 - t : Nat) : Int)])) := (hU.trans hkq hU3).q
  generalize ν3.set q (.lst [.int ((L - 1 - t : Nat) : Int)]) = ν4 at hT4 hU4 ⊢
  refine ⟨_, rfl, _, rfl, by omega, ?_⟩
  have e1 : ((1 : Int) + (t : Int)).toNat = 1 + t := by omega
  rw [e1]
  refine lc_fix (fun i acc μ1 => ∃ m : List Nat, acc = sgs m ∧ m.length = i ∧ Lt m ∧ Two μ1 k q (N + 3 + i) (L - 1 - t) ∧ Up k q μ μ1) ?_ ?_ _ 0 [] ν4 (by simp [Src.fuel]) (Nat.zero_le _) ⟨[], rfl, rfl, fun c hc => by simp at hc, hT4, hU4⟩
  · rintro i d acc μ1 hi ⟨m, rfl, hm, hLm, hTm, hUm⟩
    have hi' : i < 1 + t := by
      have := (List.getElem?_eq_some_iff.mp hi).1
      simpa [intsD] using this
    refine ⟨_, rfl, ?_⟩
    unfold mYes
    simp only [w_bnd, w_ret, w_eC, w_var, w_opS, w_op, w_N, w_CB, w_CS, w_nil, w_cons, w_call, w_if, w_B, w_and, w_or, w_not, w_vAnd, w_vOr, w_vNot, w_neg, w_tup, w_lstF, w_lstC, w_chain, w_fld, w_sl, w_oN, w_oS, w_isLs, w_isSt, w_me, w_meth, w_methS, w_make, w_fmt, w_frz, w_isi, s_seq, s_next, s_set, s_asg, s_expr, s_ret, s_retN, s_if, s_cnt, s_brk, s_no, s_par, s_par3, s_tp, s_gsNil, s_gsCons, s_fld, s_fldT, s_sub, s_aug, s_fldA, s_augS, s_for, w_lc, w_src, w_srcL, w_srcT, w_srcS, w_srcR, w_rng1, wO_some, wO_none, List.getElem?_cons_zero, List.getElem?_cons_succ, List.set_cons_zero, List.set_cons_succ, fin_v, fin_lF, fin_lT, if_true, wipeD]
    refine of3 hTm (by rw [sgs_len]; omega) (by omega) fun j d' ν' hj hT' hU' => ?_
    have hjl : j < lt.length := by
      have := (List.getElem?_eq_some_iff.mp hj).1
      rwa [sgs_len] at this
    rw [sgs_at (List.getElem?_eq_getElem hjl)] at hj
    cases hj
    refine ⟨by rw [sgs_len]; show m.length < 1000000; omega, m ++ [lt[j]], by simp [sgs], by simp [hm], ?_, hT', hUm.trans hkq hU'⟩
    intro c hc
    rcases List.mem_append.mp hc with hc | hc
    · exact hLm c hc
    · simp at hc
      subst hc
      exact hLt _ (List.getElem_mem hjl)
  · rintro acc μ1 ⟨m, rfl, hm, hLm, hTm, hUm⟩
    have hm' : m.length = 1 + t := by simpa [intsD] using hm
    have j := o_joinS (μ := μ1) (x := .lst (sgs m)) (m := m) rfl (by omega)
    simp only [fin_lF, j, wO_some]
    refine ⟨by simp, ?_⟩
    rw [leave_same hUm.len]
    refine hQ _ ⟨(34 :: m ++ [34]) :: sgP s, (34 :: m ++ [34]) ++ s, m.length, sgT s (tAll (m.map fun c => tOne [c]))⟩ _ (L - 1 - t) (itR_of fun B => ⟨s, hsg, .inl ⟨m, by omega, by omega, hLm, rfl, rfl⟩⟩) (by show m.length + _ = L; omega) (by show 1 ≤ m.length; omega) ⟨hTm.1.mono ?_, hTm.2⟩ hUm (noref3 (noref_str _) (noref_str _) (noref_str _))
    have : (intsD 0 (1 + t)).length = 1 + t := by simp [intsD]
    omega
end K01

set_option maxRecDepth 100000
set_option maxHeartbeats 1000000
namespace K01
open PySem L2 PyProof.Rows PySem.Spec Ab
/-! ### drawn things may be compared -/
def Sh (n : Nat) (d : D) : Prop := ∃ x, toP0 d = some x ∧ x.canLay0 = true ∧ x.depth ≤ n
def Shs (n : Nat) (ds : List D) : Prop := ∃ xs, toP0s ds = some xs ∧ PyData.canLayAll0 xs = true ∧ PyData.depthAll xs ≤ n ∧ xs.length = ds.length
theorem shs_nil {n : Nat} : Shs n [] := ⟨[], rfl, rfl, Nat.zero_le _, rfl⟩
theorem shs_cons {n : Nat} {d : D} {ds : List D} (h : Sh n d) (g : Shs n ds) : Shs n (d :: ds) := by
  obtain ⟨x, h1, h2, h3⟩ := h
  obtain ⟨xs, g1, g2, g3, g4⟩ := g
  refine ⟨x :: xs, by simp [toP0s, h1, g1], by simp [PyData.canLayAll0, h2, g2], ?_, by simp [g4]⟩
  simp only [PyData.depthAll]
  omega
theorem shs_all {n : Nat} : ∀ {ds : List D}, (∀ d ∈ ds, Sh n d) → Shs n ds
  | [], _ => shs_nil
  | d :: ds, h => shs_cons (h d (by simp)) (shs_all fun e he => h e (by simp [he]))
theorem sh_lst {n : Nat} {ds : List D} (h : Shs n ds) : Sh (n + 1) (.lst ds) := by
  obtain ⟨xs, g1, g2, g3, g4⟩ := h
  exact ⟨.list xs, by simp [toP0, g1], g2, by simp only [PyData.depth]; omega⟩
theorem sh_tup {n : Nat} {ds : List D} (h : Shs n ds) : Sh (n + 1) (.tup ds) := by
  obtain ⟨xs, g1, g2, g3, g4⟩ := h
  exact ⟨.tuple xs, by simp [toP0, g1], g2, by simp only [PyData.depth]; omega⟩
theorem sh_mono {n m : Nat} {d : D} (h : Sh n d) (hm : n ≤ m) : Sh m d := by
  obtain ⟨x, h1, h2, h3⟩ := h
  exact ⟨x, h1, h2, by omega⟩
def Low (l : List Nat) : Prop := ∀ c ∈ l, c < 128
theorem sh_str {n : Nat} {l : List Nat} (h : Low l) : Sh n (.str l) := by
  refine ⟨.str (mkS l), rfl, ?_, by simp [PyData.depth]⟩
  show (mkS l).cps.all (· < 0x110000) = true
  have e : (mkS l).cps.all (· < 0x110000) = l.all (fun c => decide (c < 0x110000)) := by simp [mkS]
  rw [e, List.all_eq_true]
  intro c hc
  have := h c hc
  exact decide_eq_true (by omega)
theorem low_abc : ∀ c ∈ abc, c < 128 := by decide
theorem Lt.low {l : List Nat} (h : Lt l) : Low l := fun c hc => low_abc c (h c hc)
theorem low_sg {s : List Nat} (h : IsSg s) : Low s := by
  unfold IsSg at h
  simp at h
  rcases h with rfl | rfl | rfl | rfl <;> intro c hc <;> simp at hc <;> omega
theorem All2.mem {α β : Type} {R : α → β → Prop} {xs : List α} {ys : List β} (h : All2 R xs ys) {x : α} (hx : x ∈ xs) : ∃ y ∈ ys, R x y := by
  obtain ⟨i, hi, e⟩ := List.mem_iff_getElem.mp hx
  have hy : i < ys.length := by rw [← h.1]; exact hi
  exact ⟨ys[i], List.getElem_mem hy, h.2 i x ys[i] (by rw [List.getElem?_eq_getElem hi, e]) (List.getElem?_eq_getElem hy)⟩
theorem sh_it {n m : Nat} {B : List D → List At → Prop} {d : D} {a : At} (hB : ∀ bs as, B bs as → Shs m bs) (hm : n = m + 2) (h : ItP B d a) : Sh n d := by
  subst hm
  obtain ⟨s, hs, ⟨l, _, _, hl, rfl, _⟩ | ⟨l, _, _, _, hl, rfl, _⟩ | ⟨bs, as, hb, rfl, _⟩⟩ := h
  · exact sh_tup (shs_all fun d hd => by
      simp at hd
      rcases hd with rfl | rfl | rfl
      · exact sh_str (by intro c hc; simp at hc; omega)
      · exact sh_str hl.low
      · exact sh_str (low_sg hs))
  · exact sh_tup (shs_all fun d hd => by
      simp at hd
      rcases hd with rfl | rfl | rfl
      · exact sh_str (by intro c hc; simp at hc; omega)
      · exact sh_str hl.low
      · exact sh_str (low_sg hs))
  · exact sh_tup (shs_all fun d hd => by
      simp at hd
      rcases hd with rfl | rfl | rfl
      · exact sh_str (by intro c hc; simp at hc; omega)
      · exact sh_lst (hB bs as hb)
      · exact sh_str (low_sg hs))
theorem sh_brs {n : Nat} {I : D → At → Prop} (hI : ∀ d a, I d a → Sh n d) {bs : List D} {as : List At} (h : All2 (fun d a => ∃ ds is, d = .lst ds ∧ ds ≠ [] ∧ ds.length ≤ 4 ∧ All2 I ds is ∧ a = bAt is) bs as) : Shs (n + 1) bs :=
  shs_all fun d hd => by
    obtain ⟨a, _, ds, is, rfl, _, _, hd2, _⟩ := h.mem hd
    exact sh_lst (shs_all fun e he => by
      obtain ⟨b, _, hb⟩ := hd2.mem he
      exact hI e b hb)
theorem sh_R : ∀ (n : Nat) (d : D) (a : At), ItR n d a → Sh (3 * n + 2) d
  | 0, d, a, h => sh_it (m := 0) (fun _ _ h => h.elim) (by omega) h
  | n + 1, d, a, h => sh_it (m := 3 * n + 3) (fun bs as hb => sh_brs (fun d a => sh_R n d a) hb.2.2) (by omega) h
/-- xs == [], xs a cell of such things -/
theorem eq_nil {μ : Sto} {k n : Nat} {ds : List D} (hk : μ[k]? = some (.lst ds)) (h : Shs n ds) (hn : n ≤ 60) : gEq false (.ref k) (.lst []) μ = some (.v (.bl (decide (ds = [])))) := by
  obtain ⟨xs, g1, g2, g3, g4⟩ := h
  have e1 : toP μ (.ref k) = some (.list xs) := by simp [toP, hk, g1]
  have e2 : toP μ (.lst []) = some (.list []) := rfl
  have s1 : SeqAt.shaped (.list xs) = true := by
    unfold SeqAt.shaped
    have hd : (PyData.list xs).depth ≤ 64 := by
      show PyData.depthAll xs + 1 ≤ 64
      omega
    rw [decide_eq_true hd]
    exact (Bool.and_true _).trans g2
  have s2 : SeqAt.shaped (.list []) = true := rfl
  have e0 : scalD (.ref k) (.lst []) = none := rfl
  simp only [gEq, e0, e1, e2, s1, s2, and_self, if_true, Bool.false_eq_true, if_false]
  cases xs with
  | nil =>
    have : ds = [] := List.eq_nil_of_length_eq_zero (by simpa using g4.symm)
    subst this
    rfl
  | cons x xs =>
    have : ds ≠ [] := by rintro rfl; simp at g4
    simp [this, PyData.eqv, PyData.eqvAll]
end K01

set_option maxRecDepth 100000
set_option maxHeartbeats 1000000
namespace K01
open PySem L2 PyProof.Rows PySem.Spec Ab
theorem Two.left {ν l : Sto} {k q n L : Nat} (h : Two (ν ++ l) k q n L) (hk : k < ν.length) (hq : q < ν.length) : Two ν k q n L :=
  ⟨h.1.left hk, by have := h.2.1; rw [List.getElem?_append_left hq] at this; exact this, h.2.2⟩
theorem genI_app {n : Nat} (hI : GenI n) {ν l : Sto} {k q N L : Nat} {lt : List Nat} {deep : Nat} {Q : D → Sto → Prop} (hT : Two ν k q N L) (hL1 : 1 ≤ L) (hL9 : L ≤ 9) (h1 : 1 ≤ lt.length) (h8 : lt.length ≤ 8) (hA : Asc lt) (hLt : Lt lt) (hd : deep < n) (hN : N + bI n ≤ 50000000000)
    (hQ : ∀ d a ν' M, ItR deep d a → a.c + M = L → 1 ≤ a.c → Two ν' k q (N + bI n) M → Up k q ν ν' → NoRef d → Q d (ν' ++ l)) : wF (F_l_item n) [.ref k, .lst (sgs lt), .int (deep : Int), .ref q] (ν ++ l) Q := by
  refine hI (ν ++ l) k q N L lt deep Q hT.app hL1 hL9 h1 h8 hA hLt hd hN fun d a μ' M r c1 c2 hT' hU' hn => ?_
  obtain ⟨x, y, rfl⟩ := hU'
  have hk := hT.1.lt
  have hq := lt_at hT.2.1
  rw [app2 hk hq] at hT' ⊢
  exact hQ d a _ M r c1 c2 (hT'.left (by simpa using hk) (by simpa using hq)) ⟨x, y, rfl⟩ hn
theorem refs_snoc {n : Nat} {ds : List D} {d : D} : refsLts n (ds ++ [d]) = (refsLts n ds && refsLt n d) := by
  induction ds with
  | nil => simp [refsLts]
  | cons e ds ih =>
    show refsLts n (e :: (ds ++ [d])) = _
    simp only [refsLts, ih, Bool.and_assoc]
def NoRefs (ds : List D) : Prop := ∀ n, refsLts n ds = true
theorem NoRefs.snoc {ds : List D} {d : D} (h : NoRefs ds) (g : NoRef d) : NoRefs (ds ++ [d]) := fun n => by rw [refs_snoc, h n, g n]; rfl
theorem sum_snoc {is : List At} {a : At} : ((is ++ [a]).map (·.c)).sum = (is.map (·.c)).sum + a.c := by simp
/-- the items of a branch -/
theorem items_loop {n : Nat} (hI : GenI n) {ν : Sto} {rest : Sto} {k q N L J : Nat} {lt : List Nat} {deep : Nat} {ds : List D} {is : List At} {K : KS} {d4 : D}
    (hJ : J = ν.length + rest.length) (hT : Two ν k q N L) (hL9 : L ≤ 9) (h1 : 1 ≤ lt.length) (h8 : lt.length ≤ 8) (hA : Asc lt) (hLt : Lt lt) (hd : deep < n) (hN : N + 4 * (bI n + 1) ≤ 50000000000)
    (hi : All2 (ItR deep) ds is) (hnr : NoRefs ds) (hds : ds.length = 1)
    (hQ : ∀ ds' is' ν' M, All2 (ItR deep) ds' is' → ds' ≠ [] → ds'.length ≤ 4 → NoRefs ds' → (is'.map (·.c)).sum + M = (is.map (·.c)).sum + L → (is.map (·.c)).sum ≤ (is'.map (·.c)).sum → Two ν' k q (N + 4 * (bI n + 1)) M → Up k q ν ν' →
      K.n [some (.ref k), some (.lst (sgs lt)), some (.int (deep : Int)), some (.ref q), some d4, some (.ref J)] (ν' ++ (rest ++ [.lst ds']))) :
    wS (sWhile (bAnd (mB (eN false gGt (eOp gIx (eVar 3) (eC (.int 0))) (eC (.int 0)))) (bAnd (mB (eN false gLt (eCB false gLen (aCons (eVar 5) aNil)) (eC (.int 4)))) (mB (eN false gGt (eCall F_l_take (aCons (eVar 0) (aCons (eC (.int 5)) aNil))) (eC (.int 1))))))
      (sExpr (eMe isLs gAppend (eVar 5) (aCons (eCall (F_l_item n) (aCons (eVar 0) (aCons (eVar 1) (aCons (eVar 2) (aCons (eVar 3) aNil))))) aNil))) wfuel)
      [some (.ref k), some (.lst (sgs lt)), some (.int (deep : Int)), some (.ref q), some d4, some (.ref J)] (ν ++ (rest ++ [.lst ds])) K := by
  subst hJ
  have cJ : ∀ (ν' : Sto) es, ν'.length = ν.length → (ν' ++ (rest ++ [O.lst es]))[ν.length + rest.length]? = some (.lst es) := fun ν' es h => by
    rw [new_at h, List.getElem?_append_right (Nat.le_refl _)]
    simp
  have sJ : ∀ (ν' : Sto) es o, ν'.length = ν.length → (ν' ++ (rest ++ [O.lst es])).set (ν.length + rest.length) o = ν' ++ (rest ++ [o]) := fun ν' es o h => by
    rw [new_set h, List.set_append_right _ _ (Nat.le_refl _)]
    simp
  refine s_while (fun m Γ1 μ1 => ∃ ds' is' ν' M, Γ1 = [some (.ref k), some (.lst (sgs lt)), some (.int (deep : Int)), some (.ref q), some d4, some (.ref (ν.length + rest.length))] ∧ μ1 = ν' ++ (rest ++ [.lst ds']) ∧ All2 (ItR deep) ds' is' ∧ 1 ≤ ds'.length ∧ ds'.length ≤ 4 ∧ NoRefs ds' ∧
    (is'.map (·.c)).sum + M = (is.map (·.c)).sum + L ∧ (is.map (·.c)).sum ≤ (is'.map (·.c)).sum ∧ Two ν' k q (N + (ds'.length - 1) * (bI n + 1)) M ∧ Up k q ν ν' ∧ m + ds'.length = 5 ∧ M ≤ 9) ⟨4, by decide, ds, is, ν, L, rfl, rfl, hi, by omega, by omega, hnr, rfl, Nat.le_refl _, by rw [hds]; simpa using hT, Up.refl hT, by omega, hL9⟩ ?_
  rintro m Γ1 μ1 ⟨ds', is', ν', M, rfl, rfl, hi', hd1, hd4, hnr', hs, hs2, hT', hU', hm, hM9⟩
  have hl' := hU'.len
  have hq' := lt_at hT'.2.1
  have x0 : gIx (.ref q) (.int 0) (ν' ++ (rest ++ [.lst ds'])) = some (.int (M : Int), _) := o_ixC (i := 0) (by rw [List.getElem?_append_left hq']; exact hT'.2.1) rfl
  have hcost : (ds'.length - 1) * (bI n + 1) ≤ 3 * (bI n + 1) := Nat.mul_le_mul_right _ (by omega)
  have fin0 : ∀ ν'' , Two ν'' k q (N + (ds'.length - 1) * (bI n + 1) + 1) M → Up k q ν ν'' → K.n [some (.ref k), some (.lst (sgs lt)), some (.int (deep : Int)), some (.ref q), some d4, some (.ref (ν.length + rest.length))] (ν'' ++ (rest ++ [.lst ds'])) := fun ν'' hT'' hU'' =>
    hQ ds' is' ν'' M hi' (by rintro rfl; simp at hd1) hd4 hnr' hs hs2 ⟨hT''.1.mono (by omega), hT''.2⟩ hU''
  simp only [w_bnd, w_ret, w_eC, w_var, w_opS, w_op, w_N, w_CB, w_CS, w_nil, w_cons, w_call, w_if, w_B, w_and, w_or, w_not, w_vAnd, w_vOr, w_vNot, w_neg, w_tup, w_lstF, w_lstC, w_chain, w_fld, w_sl, w_oN, w_oS, w_isLs, w_isSt, w_me, w_meth, w_methS, w_make, w_fmt, w_frz, w_isi, s_seq, s_next, s_set, s_asg, s_expr, s_ret, s_retN, s_if, s_cnt, s_brk, s_no, s_par, s_par3, s_tp, s_gsNil, s_gsCons, s_fld, s_fldT, s_sub, s_aug, s_fldA, s_augS, s_for, w_lc, w_src, w_srcL, w_srcT, w_srcS, w_srcR, w_rng1, wO_some, wO_none, List.getElem?_cons_zero, List.getElem?_cons_succ, List.set_cons_zero, List.set_cons_succ, fin_v, fin_lF, fin_lT, x0, o_gt, o_lenC (cJ _ _ hl'), o_lt]
  refine ⟨_, rfl, ?_⟩
  by_cases hM : 0 < (M : Int)
  · simp only [hM, decide_true, if_true]
    refine ⟨_, rfl, ?_⟩
    by_cases h4 : (ds'.length : Int) < 4
    · simp only [h4, decide_true, if_true]
      refine take2 hT' (by decide) (by omega) fun r ν2 r0 r1 hT2 hU2 => ?_
      try simp only [wO_some, fin_v]
      refine ⟨_, rfl, ?_⟩
      by_cases hr : (1 : Int) < r
      · simp only [hr, decide_true, if_true]
        have hl2 : ν2.length = ν.length := by rw [hU2.len, hl']
        simp only [fin_v, l_ref (cJ _ _ hl2), wO_some]
        refine genI_app hI hT2 (by omega) hM9 h1 h8 hA hLt hd (by omega) fun d a ν3 M3 hR hc hc1 hT3 hU3 hnd => ?_
        have hl3 : ν3.length = ν.length := by rw [hU3.len, hl2]
        rw [o_append (cJ _ _ hl3) (by show ds'.length < 1000000; omega), wO_some, sJ _ _ _ hl3]
        refine ⟨m - 1, by omega, ds' ++ [d], is' ++ [a], ν3, M3, by first | trivial | rfl, rfl, hi'.snoc hR, by simp, by simp; omega, hnr'.snoc hnd, by rw [sum_snoc]; omega, by rw [sum_snoc]; omega, ⟨hT3.1.mono ?_, hT3.2⟩, (hU'.trans hT.2.2 hU2).trans hT.2.2 hU3, by simp; omega, by omega⟩
        simp only [List.length_append, List.length_singleton]
        have : ds'.length + 1 - 1 = (ds'.length - 1) + 1 := by omega
        rw [this, Nat.add_mul]
        omega
      · simp only [hr, decide_false, Bool.false_eq_true, if_false]
        exact fin0 ν2 hT2 (hU'.trans hT.2.2 hU2)
    · simp only [h4, decide_false, Bool.false_eq_true, if_false]
      exact fin0 ν' ⟨hT'.1.mono (by omega), hT'.2⟩ hU'
  · simp only [hM, decide_false, Bool.false_eq_true, if_false]
    exact fin0 ν' ⟨hT'.1.mono (by omega), hT'.2⟩ hU'
end K01

set_option maxRecDepth 100000
set_option maxHeartbeats 1000000
namespace K01
open PySem L2 PyProof.Rows PySem.Spec Ab
theorem cB_snoc {as : List At} {a : At} : cB (as ++ [a]) = cB as + a.c := by simp [cB]
theorem noref_lst {ds : List D} (h : NoRefs ds) : NoRef (.lst ds) := fun n => by simp only [refsLt]; exact h n
theorem branches_step {n : Nat} (hI : GenI n) (hn5 : n ≤ 10) : GenB n := by
  intro μ k q N L lt deep Q hT hL1 hL9 hl1 hl8 hA hLt hd hN hQ
  have hb : bB n = 16 * bI n + 100 := by rw [bB]
  have hkq := hT.2.2
  show wF (body 6 4 (m_l_branches F_l_take (F_l_item n))) _ μ Q
  rw [f_body]
  refine ⟨rfl, ?_⟩
  show wS _ [some (.ref k), some (.lst (sgs lt)), some (.int (deep : Int)), some (.ref q), none, none] μ _
  unfold m_l_branches
  refine q_seq (fun Γ' μ' => Γ' = [some (.ref k), some (.lst (sgs lt)), some (.int (deep : Int)), some (.ref q), some (.ref μ.length), none] ∧ μ' = μ ++ [.lst []]) ?_ ?_
  · simp only [w_bnd, w_ret, w_eC, w_var, w_opS, w_op, w_N, w_CB, w_CS, w_nil, w_cons, w_call, w_if, w_B, w_and, w_or, w_not, w_vAnd, w_vOr, w_vNot, w_neg, w_tup, w_lstF, w_lstC, w_chain, w_fld, w_sl, w_oN, w_oS, w_isLs, w_isSt, w_me, w_meth, w_methS, w_make, w_fmt, w_frz, w_isi, s_seq, s_next, s_set, s_asg, s_expr, s_ret, s_retN, s_if, s_cnt, s_brk, s_no, s_par, s_par3, s_tp, s_gsNil, s_gsCons, s_fld, s_fldT, s_sub, s_aug, s_fldA, s_augS, s_for, w_lc, w_src, w_srcL, w_srcT, w_srcS, w_srcR, w_rng1, wO_some, wO_none, List.getElem?_cons_zero, List.getElem?_cons_succ, List.set_cons_zero, List.set_cons_succ, fin_v, fin_lF, fin_lT]
    exact ⟨by simp, by first | trivial | rfl, by first | trivial | rfl⟩
  rintro Γ' μ' ⟨rfl, e⟩
  rw [e]
  clear e μ'
  refine q_seq (fun Γ' μ' => ∃ (ν : Sto) (bs : List D) (as : List At) (M : Nat) (x : Option D), Γ' = [some (.ref k), some (.lst (sgs lt)), some (.int (deep : Int)), some (.ref q), some (.ref μ.length), x] ∧ μ' = ν ++ (.lst bs :: List.replicate bs.length .dead) ∧ BrsP (ItR deep) bs as ∧ NoRefs bs ∧ cB as + M = L ∧ 1 ≤ cB as ∧ Two ν k q (N + bB n) M ∧ Up k q μ ν) ?_ ?_
  · refine s_while (fun m Γ' μ' => ∃ (ν : Sto) (bs : List D) (as : List At) (M : Nat) (x : Option D), Γ' = [some (.ref k), some (.lst (sgs lt)), some (.int (deep : Int)), some (.ref q), some (.ref μ.length), x] ∧ μ' = ν ++ (.lst bs :: List.replicate bs.length .dead) ∧
      All2 (fun d a => ∃ ds is, d = .lst ds ∧ ds ≠ [] ∧ ds.length ≤ 4 ∧ All2 (ItR deep) ds is ∧ a = bAt is) bs as ∧ bs.length ≤ 3 ∧ NoRefs bs ∧ cB as + M = L ∧ (bs = [] ∨ 1 ≤ cB as) ∧ Two ν k q (N + bs.length * (5 * bI n + 10)) M ∧ Up k q μ ν ∧ m + bs.length = 4) ⟨4, by decide, μ, [], [], L, none, rfl, rfl, All2.nil, by simp, fun _ => rfl, by simp [cB], .inl rfl, by simpa using hT, Up.refl hT, rfl⟩ ?_
    rintro m Γ1 μ1 ⟨ν, bs, as, M, x, rfl, rfl, hR, hb3, hnr, hs, hpos, hTν, hUν, hm⟩
    have hlν := hUν.len
    have hqν := lt_at hTν.2.1
    have cF : ∀ (ν' : Sto) es l, ν'.length = ν.length → (ν' ++ (O.lst es :: l))[μ.length]? = some (.lst es) := fun ν' es l h => by
      rw [new_at0 (N := μ.length) (by rw [h, hlν])]
      rfl
    have sF : ∀ (ν' : Sto) es l o, ν'.length = ν.length → (ν' ++ (O.lst es :: l)).set μ.length o = ν' ++ (o :: l) := fun ν' es l o h => by
      rw [new_set0 (N := μ.length) (by rw [h, hlν])]
      rfl
    have hcost : bs.length * (5 * bI n + 10) ≤ 3 * (5 * bI n + 10) := Nat.mul_le_mul_right _ hb3
    -- the body from a store with the bag drawn on
    have go : ∀ (ν1 : Sto), Two ν1 k q (N + bs.length * (5 * bI n + 10) + 1) M → Up k q μ ν1 → 1 ≤ M → bs.length ≤ 2 →
        wS (sSeq (sAsg (eLstC (aCons (eCall (F_l_item n) (aCons (eVar 0) (aCons (eVar 1) (aCons (eVar 2) (aCons (eVar 3) aNil))))) aNil)) (sSet 5))
          (sSeq (sWhile (bAnd (mB (eN false gGt (eOp gIx (eVar 3) (eC (.int 0))) (eC (.int 0)))) (bAnd (mB (eN false gLt (eCB false gLen (aCons (eVar 5) aNil)) (eC (.int 4)))) (mB (eN false gGt (eCall F_l_take (aCons (eVar 0) (aCons (eC (.int 5)) aNil))) (eC (.int 1))))))
            (sExpr (eMe isLs gAppend (eVar 5) (aCons (eCall (F_l_item n) (aCons (eVar 0) (aCons (eVar 1) (aCons (eVar 2) (aCons (eVar 3) aNil))))) aNil))) wfuel)
            (sExpr (eMe isLs gAppend (eVar 4) (aCons (eFrz (eVar 5)) aNil)))))
          [some (.ref k), some (.lst (sgs lt)), some (.int (deep : Int)), some (.ref q), some (.ref μ.length), x] (ν1 ++ (.lst bs :: List.replicate bs.length .dead))
          { n := fun Γ3 μ3 => ∃ m', m' < m ∧ ∃ (ν : Sto) (bs : List D) (as : List At) (M : Nat) (x : Option D), Γ3 = [some (.ref k), some (.lst (sgs lt)), some (.int (deep : Int)), some (.ref q), some (.ref μ.length), x] ∧ μ3 = ν ++ (.lst bs :: List.replicate bs.length .dead) ∧
              All2 (fun d a => ∃ ds is, d = .lst ds ∧ ds ≠ [] ∧ ds.length ≤ 4 ∧ All2 (ItR deep) ds is ∧ a = bAt is) bs as ∧ bs.length ≤ 3 ∧ NoRefs bs ∧ cB as + M = L ∧ (bs = [] ∨ 1 ≤ cB as) ∧ Two ν k q (N + bs.length * (5 * bI n + 10)) M ∧ Up k q μ ν ∧ m' + bs.length = 4
            r := fun d μ1 => Q (leave μ d μ1).1 (leave μ d μ1).2, b := fun Γ' μ' => ∃ (ν : Sto) (bs : List D) (as : List At) (M : Nat) (x : Option D), Γ' = [some (.ref k), some (.lst (sgs lt)), some (.int (deep : Int)), some (.ref q), some (.ref μ.length), x] ∧ μ' = ν ++ (.lst bs :: List.replicate bs.length .dead) ∧ BrsP (ItR deep) bs as ∧ NoRefs bs ∧ cB as + M = L ∧ 1 ≤ cB as ∧ Two ν k q (N + bB n) M ∧ Up k q μ ν
            c := fun Γ3 μ3 => ∃ m', m' < m ∧ ∃ (ν : Sto) (bs : List D) (as : List At) (M : Nat) (x : Option D), Γ3 = [some (.ref k), some (.lst (sgs lt)), some (.int (deep : Int)), some (.ref q), some (.ref μ.length), x] ∧ μ3 = ν ++ (.lst bs :: List.replicate bs.length .dead) ∧
              All2 (fun d a => ∃ ds is, d = .lst ds ∧ ds ≠ [] ∧ ds.length ≤ 4 ∧ All2 (ItR deep) ds is ∧ a = bAt is) bs as ∧ bs.length ≤ 3 ∧ NoRefs bs ∧ cB as + M = L ∧ (bs = [] ∨ 1 ≤ cB as) ∧ Two ν k q (N + bs.length * (5 * bI n + 10)) M ∧ Up k q μ ν ∧ m' + bs.length = 4 } := by
      intro ν1 hT1 hU1 hM1 hb2
      have hl1' : ν1.length = ν.length := by rw [hU1.len, hlν]
      have hcost2 : bs.length * (5 * bI n + 10) ≤ 2 * (5 * bI n + 10) := Nat.mul_le_mul_right _ hb2
      refine q_seq (fun Γ' μ' => ∃ d a ν' M', Γ' = [some (.ref k), some (.lst (sgs lt)), some (.int (deep : Int)), some (.ref q), some (.ref μ.length), some (.ref (ν'.length + (O.lst bs :: List.replicate bs.length .dead).length))] ∧ μ' = ν' ++ ((.lst bs :: List.replicate bs.length .dead) ++ [.lst [d]]) ∧ ItR deep d a ∧ a.c + M' = M ∧ 1 ≤ a.c ∧ Two ν' k q (N + bs.length * (5 * bI n + 10) + 1 + bI n) M' ∧ Up k q μ ν' ∧ NoRef d) ?_ ?_
      · simp only [w_bnd, w_ret, w_eC, w_var, w_opS, w_op, w_N, w_CB, w_CS, w_nil, w_cons, w_call, w_if, w_B, w_and, w_or, w_not, w_vAnd, w_vOr, w_vNot, w_neg, w_tup, w_lstF, w_lstC, w_chain, w_fld, w_sl, w_oN, w_oS, w_isLs, w_isSt, w_me, w_meth, w_methS, w_make, w_fmt, w_frz, w_isi, s_seq, s_next, s_set, s_asg, s_expr, s_ret, s_retN, s_if, s_cnt, s_brk, s_no, s_par, s_par3, s_tp, s_gsNil, s_gsCons, s_fld, s_fldT, s_sub, s_aug, s_fldA, s_augS, s_for, w_lc, w_src, w_srcL, w_srcT, w_srcS, w_srcR, w_rng1, wO_some, wO_none, List.getElem?_cons_zero, List.getElem?_cons_succ, List.set_cons_zero, List.set_cons_succ, fin_v, fin_lF, fin_lT]
        refine genI_app hI hT1 hM1 (by omega) hl1 hl8 hA hLt hd (by omega) fun d a ν' M' hR' hc hc1 hT' hU' hnd => ?_
        refine ⟨by simp, d, a, ν', M', ?_, ?_, hR', hc, hc1, hT', hU1.trans hkq hU', hnd⟩
        · rw [List.length_append]
        · rw [List.append_assoc]
      rintro Γ' μ' ⟨d, a, ν', M', rfl, rfl, hR', hc, hc1, hT', hU', hnd⟩
      have hl'' : ν'.length = ν.length := by rw [hU'.len, hlν]
      refine q_seq (fun Γ' μ' => ∃ ds' is' ν2 M2, Γ' = [some (.ref k), some (.lst (sgs lt)), some (.int (deep : Int)), some (.ref q), some (.ref μ.length), some (.ref (ν'.length + (O.lst bs :: List.replicate bs.length .dead).length))] ∧ μ' = ν2 ++ ((.lst bs :: List.replicate bs.length .dead) ++ [.lst ds']) ∧ All2 (ItR deep) ds' is' ∧ ds' ≠ [] ∧ ds'.length ≤ 4 ∧ NoRefs ds' ∧ (is'.map (·.c)).sum + M2 = M ∧ 1 ≤ (is'.map (·.c)).sum ∧
        Two ν2 k q (N + bs.length * (5 * bI n + 10) + 1 + bI n + 4 * (bI n + 1)) M2 ∧ Up k q μ ν2) ?_ ?_
      · refine items_loop (is := [a]) hI rfl hT' (by omega) hl1 hl8 hA hLt hd (by omega) (All2.snoc All2.nil hR') (NoRefs.snoc (ds := []) (fun _ => rfl) hnd) rfl fun ds' is' ν2 M2 h1 h2 h3 h4 h5 h6 h7 h8 => ?_
        simp at h5 h6
        exact ⟨ds', is', ν2, M2, rfl, rfl, h1, h2, h3, h4, by omega, by omega, h7, hU'.trans hkq h8⟩
      rintro Γ' μ' ⟨ds', is', ν2, M2, rfl, rfl, h1, h2, h3, h4, h5, h6, hT2, hU2⟩
      have hl2 : ν2.length = ν.length := by rw [hU2.len, hlν]
      have hl2' : ν2.length = ν'.length := by rw [hl2, hl'']
      have cJ : (ν2 ++ ((O.lst bs :: List.replicate bs.length .dead) ++ [.lst ds']))[ν'.length + (O.lst bs :: List.replicate bs.length .dead).length]? = some (.lst ds') := by
        rw [new_at hl2', List.getElem?_append_right (Nat.le_refl _)]
        simp
      have sJ : (ν2 ++ ((O.lst bs :: List.replicate bs.length .dead) ++ [O.lst ds'])).set (ν'.length + (O.lst bs :: List.replicate bs.length .dead).length) .dead = ν2 ++ (.lst bs :: (List.replicate bs.length .dead ++ [.dead])) := by
        rw [new_set hl2', List.set_append_right _ _ (Nat.le_refl _)]
        simp
      have fz : frzD (.ref (ν'.length + (O.lst bs :: List.replicate bs.length .dead).length)) (ν2 ++ ((O.lst bs :: List.replicate bs.length .dead) ++ [.lst ds'])) = (.lst ds', ν2 ++ (.lst bs :: (List.replicate bs.length .dead ++ [.dead]))) := by
        simp only [frzD, cJ, sJ]
      have cF' := cF ν2 bs (List.replicate bs.length .dead ++ [.lst ds']) hl2
      have lF : asL (ν2 ++ ((O.lst bs :: List.replicate bs.length .dead) ++ [.lst ds'])) (.ref μ.length) = some bs := l_ref cF'
      simp only [w_bnd, w_ret, w_eC, w_var, w_opS, w_op, w_N, w_CB, w_CS, w_nil, w_cons, w_call, w_if, w_B, w_and, w_or, w_not, w_vAnd, w_vOr, w_vNot, w_neg, w_tup, w_lstF, w_lstC, w_chain, w_fld, w_sl, w_oN, w_oS, w_isLs, w_isSt, w_me, w_meth, w_methS, w_make, w_fmt, w_frz, w_isi, s_seq, s_next, s_set, s_asg, s_expr, s_ret, s_retN, s_if, s_cnt, s_brk, s_no, s_par, s_par3, s_tp, s_gsNil, s_gsCons, s_fld, s_fldT, s_sub, s_aug, s_fldA, s_augS, s_for, w_lc, w_src, w_srcL, w_srcT, w_srcS, w_srcR, w_rng1, wO_some, wO_none, List.getElem?_cons_zero, List.getElem?_cons_succ, List.set_cons_zero, List.set_cons_succ, fin_v, fin_lF, fin_lT, lF, fz]
      rw [o_append (cF ν2 bs _ hl2) (by show bs.length < 1000000; omega), wO_some, sF _ _ _ _ hl2]
      refine ⟨m - 1, by omega, ν2, bs ++ [.lst ds'], as ++ [bAt is'], M2, _, by first | trivial | rfl, ?_, hR.snoc ⟨ds', is', rfl, h2, h3, h1, rfl⟩, by simp; omega, hnr.snoc (noref_lst h4), ?_, .inr ?_, ⟨hT2.1.mono ?_, hT2.2⟩, hU2, by simp; omega⟩
      · simp [List.replicate_succ']
      · rw [cB_snoc]
        show cB as + (is'.map (·.c)).sum + M2 = L
        omega
      · rw [cB_snoc]
        show 1 ≤ cB as + (is'.map (·.c)).sum
        omega
      · simp only [List.length_append, List.length_singleton, Nat.add_mul]
        omega
    have x0 : gIx (.ref q) (.int 0) (ν ++ (.lst bs :: List.replicate bs.length .dead)) = some (.int (M : Int), _) := o_ixC (i := 0) (by rw [List.getElem?_append_left hqν]; exact hTν.2.1) rfl
    have q0 := eq_nil (cF ν bs (List.replicate bs.length .dead) rfl) (sh_brs (fun d a => sh_R deep d a) hR) (by omega)
    simp only [w_or, w_and, w_B, w_N, w_op, w_var, w_eC, w_lstF, w_nil, w_CB, w_cons, w_call, wO_some, List.getElem?_cons_zero, List.getElem?_cons_succ, fin_v, q0]
    refine ⟨by simp, _, rfl, ?_⟩
    by_cases hbn : bs = []
    · simp only [hbn, decide_true, if_true]
      have := go ν ⟨hTν.1.mono (by omega), hTν.2⟩ hUν (by
        have : as = [] := List.eq_nil_of_length_eq_zero (by rw [← hR.1, hbn]; rfl)
        subst this
        simp [cB] at hs
        omega) (by rw [hbn]; simp)
      simp only [hbn] at this
      exact this
    · have hpos' : 1 ≤ cB as := hpos.resolve_left hbn
      have hBR : BrsP (ItR deep) bs as := ⟨hbn, hb3, hR⟩
      simp only [hbn, decide_false, Bool.false_eq_true, if_false, x0, wO_some, o_gt, fin_v, o_lenC (cF ν bs _ rfl), o_lt]
      refine ⟨_, rfl, ?_⟩
      by_cases hM : 0 < (M : Int)
      · simp only [hM, decide_true, if_true]
        refine ⟨_, rfl, ?_⟩
        by_cases h3 : (bs.length : Int) < 3
        · simp only [h3, decide_true, if_true]
          refine take2 hTν (by decide) (by omega) fun r ν1 r0 r1 hT1 hU1 => ?_
          simp only [o_eqI, wO_some, fin_v, Bool.false_eq_true, if_false]
          refine ⟨_, rfl, ?_⟩
          by_cases hr : r = 0
          · simp only [hr, decide_true, if_true]
            exact go ν1 hT1 (hUν.trans hkq hU1) (by omega) (by omega)
          · simp only [hr, decide_false, Bool.false_eq_true, if_false]
            exact ⟨ν1, bs, as, M, x, rfl, rfl, hBR, hnr, hs, hpos', ⟨hT1.1.mono (by omega), hT1.2⟩, hUν.trans hkq hU1⟩
        · simp only [h3, decide_false, Bool.false_eq_true, if_false]
          exact ⟨ν, bs, as, M, x, rfl, rfl, hBR, hnr, hs, hpos', ⟨hTν.1.mono (by omega), hTν.2⟩, hUν⟩
      · simp only [hM, decide_false, Bool.false_eq_true, if_false]
        exact ⟨ν, bs, as, M, x, rfl, rfl, hBR, hnr, hs, hpos', ⟨hTν.1.mono (by omega), hTν.2⟩, hUν⟩
  · rintro Γ' μ' ⟨ν, bs, as, M, x, rfl, rfl, hR, hnr, hs, hpos, hTν, hUν⟩
    have hlν := hUν.len
    simp only [w_bnd, w_ret, w_eC, w_var, w_opS, w_op, w_N, w_CB, w_CS, w_nil, w_cons, w_call, w_if, w_B, w_and, w_or, w_not, w_vAnd, w_vOr, w_vNot, w_neg, w_tup, w_lstF, w_lstC, w_chain, w_fld, w_sl, w_oN, w_oS, w_isLs, w_isSt, w_me, w_meth, w_methS, w_make, w_fmt, w_frz, w_isi, s_seq, s_next, s_set, s_asg, s_expr, s_ret, s_retN, s_if, s_cnt, s_brk, s_no, s_par, s_par3, s_tp, s_gsNil, s_gsCons, s_fld, s_fldT, s_sub, s_aug, s_fldA, s_augS, s_for, w_lc, w_src, w_srcL, w_srcT, w_srcS, w_srcR, w_rng1, wO_some, wO_none, List.getElem?_cons_zero, List.getElem?_cons_succ, List.set_cons_zero, List.set_cons_succ, fin_v, fin_lF, fin_lT]
    rw [leave_app (ν := ν) (d' := .lst bs) hlν (fun i o h => hUν.tidy hTν i o h) ?_ (noref_lst hnr _)]
    · exact hQ bs as ν M hR hs hpos hTν hUν (noref_lst hnr)
    · have c : (ν ++ (O.lst bs :: List.replicate bs.length .dead))[μ.length]? = some (.lst bs) := by
        rw [new_at0 (N := μ.length) hlν]
        rfl
      simp only [leaveD, Nat.le_refl, if_true, c]
end K01

set_option maxRecDepth 100000
set_option maxHeartbeats 1000000
namespace K01
open PySem L2 PyProof.Rows PySem.Spec Ab
theorem gen_all : ∀ n, n ≤ 10 → GenI n ∧ GenB n
  | 0, _ => by
    have h : GenI 0 := fun μ k q N L lt deep Q _ _ _ _ _ _ _ hd => absurd hd (Nat.not_lt_zero _)
    exact ⟨h, branches_step h (by omega)⟩
  | n + 1, hn => by
    have h := item_step (gen_all n (by omega)).2
    exact ⟨h, branches_step h hn⟩
theorem gen6 : GenB 6 := (gen_all 6 (by decide)).2
theorem bB6 : bB 6 ≤ 4000000000 := by simp [bB, bI]
/-! ### pieces -/
def psS (ps : List (List Nat)) : List D := ps.map .str
/-- behind the store μ a list of the def stands at the c-th cell -/
def Own (μ μ1 : Sto) (c : Nat) (xs : List D) : Prop := ∃ l, μ1 = μ ++ l ∧ l[c]? = some (.lst xs)
theorem Own.at_ {μ μ1 : Sto} {c : Nat} {xs : List D} (h : Own μ μ1 c xs) : μ1[μ.length + c]? = some (.lst xs) := by
  obtain ⟨l, rfl, h⟩ := h
  rw [new_at rfl]
  exact h
theorem Own.set {μ μ1 : Sto} {c : Nat} {xs ys : List D} (h : Own μ μ1 c xs) : Own μ (μ1.set (μ.length + c) (.lst ys)) c ys := by
  obtain ⟨l, rfl, h⟩ := h
  exact ⟨l.set c (.lst ys), by rw [new_set rfl], List.getElem?_set_self (List.getElem?_eq_some_iff.mp h).1⟩
theorem Own.add {μ μ1 : Sto} {c : Nat} {xs ys : List D} (h : Own μ μ1 c xs) : ∃ c', μ1.length = μ.length + c' ∧ Own μ (μ1 ++ [.lst ys]) c' ys := by
  obtain ⟨l, rfl, h⟩ := h
  exact ⟨l.length, by simp, l ++ [.lst ys], by simp, by simp⟩
theorem Own.leave {μ μ1 : Sto} {c : Nat} {xs : List D} {d : D} (h : Own μ μ1 c xs) (hd : ∀ n, refsLt n d = true) : leave μ d μ1 = (d, μ) := by
  obtain ⟨l, rfl, h⟩ := h
  refine leave_pure ?_ (hd _)
  cases d with
  | ref k =>
    have := hd 0
    simp [refsLt] at this
  | _ => rfl
theorem noref_strs (ps : List (List Nat)) : NoRefs (psS ps) := fun n => by
  induction ps with
  | nil => rfl
  | cons p ps ih =>
    show refsLts n (.str p :: psS ps) = true
    simp only [refsLts, refsLt, ih, Bool.and_self]
end K01

set_option maxRecDepth 100000
set_option maxHeartbeats 1000000
namespace K01
open PySem L2 PyProof.Rows PySem.Spec Ab
/-! ### sizes -/
theorem flat_len {α : Type} {B : Nat} : ∀ {xss : List (List α)}, (∀ x ∈ xss, x.length ≤ B) → xss.flatten.length ≤ xss.length * B
  | [], _ => by simp
  | x :: xss, h => by
    have h1 := h x (by simp)
    have h2 := flat_len (xss := xss) fun y hy => h y (by simp [hy])
    simp only [List.flatten_cons, List.length_append, List.length_cons, Nat.add_mul, Nat.one_mul]
    omega
theorem All2.mem' {α β : Type} {R : α → β → Prop} {xs : List α} {ys : List β} (h : All2 R xs ys) {y : β} (hy : y ∈ ys) : ∃ x ∈ xs, R x y := by
  obtain ⟨i, hi, e⟩ := List.mem_iff_getElem.mp hy
  have hx : i < xs.length := by rw [h.1]; exact hi
  exact ⟨xs[i], List.getElem_mem hx, h.2 i xs[i] y (List.getElem?_eq_getElem hx) (by rw [List.getElem?_eq_getElem hi, e])⟩
def pb : Nat → Nat
  | 0 => 2
  | n + 1 => 3 + 3 * (4 * pb n + 1)
theorem sgP_len {s : List Nat} (h : IsSg s) : (sgP s).length ≤ 1 := by
  unfold IsSg at h
  simp at h
  rcases h with rfl | rfl | rfl | rfl <;> simp [sgP]
theorem bAt_ps {n : Nat} {I : D → At → Prop} (hI : ∀ d a, I d a → a.ps.length ≤ n) {ds : List D} {is : List At} (h : All2 I ds is) (h4 : ds.length ≤ 4) : (bAt is).ps.length ≤ 4 * n := by
  have h1 : ((is.map (·.ps)).flatten).length ≤ (is.map (·.ps)).length * n := flat_len fun x hx => by
    obtain ⟨a, ha, rfl⟩ := List.mem_map.mp hx
    obtain ⟨d, _, hd⟩ := h.mem' ha
    exact hI d a hd
  have h2 : (is.map (·.ps)).length * n ≤ 4 * n := Nat.mul_le_mul_right _ (by rw [List.length_map, ← h.1]; exact h4)
  exact Nat.le_trans h1 h2
def flat (as : List At) : List (List Nat) := (as.map fun a => a.ps ++ [[124]]).flatten
theorem flat_ps {n : Nat} {I : D → At → Prop} (hI : ∀ d a, I d a → a.ps.length ≤ n) {bs : List D} {as : List At} (h : BrsP I bs as) : (flat as).length ≤ 3 * (4 * n + 1) := by
  have h1 : (flat as).length ≤ (as.map fun a => a.ps ++ [[124]]).length * (4 * n + 1) := flat_len fun x hx => by
    obtain ⟨a, ha, rfl⟩ := List.mem_map.mp hx
    obtain ⟨d, _, ds, is, _, _, h4, hd, rfl⟩ := h.2.2.mem' ha
    have := bAt_ps hI hd h4
    simp only [List.length_append, List.length_singleton]
    omega
  have h2 : (as.map fun a => a.ps ++ [[124]]).length * (4 * n + 1) ≤ 3 * (4 * n + 1) := Nat.mul_le_mul_right _ (by rw [List.length_map, ← h.2.2.1]; exact h.2.1)
  exact Nat.le_trans h1 h2
theorem psB_len {as : List At} : (psB as).length ≤ (flat as).length := by
  show ((flat as).dropLast).length ≤ _
  rw [List.length_dropLast]
  omega
theorem ps_R : ∀ (n : Nat) (d : D) (a : At), ItR n d a → a.ps.length ≤ pb n
  | 0, d, a, ⟨s, hs, h⟩ => by
    have := sgP_len hs
    rcases h with ⟨l, _, _, _, _, rfl⟩ | ⟨l, _, _, _, _, _, rfl⟩ | ⟨bs, as, hb, _⟩
    · simp [pb]; omega
    · simp [pb]; omega
    · exact hb.elim
  | n + 1, d, a, ⟨s, hs, h⟩ => by
    have := sgP_len hs
    rcases h with ⟨l, _, _, _, _, rfl⟩ | ⟨l, _, _, _, _, _, rfl⟩ | ⟨bs, as, hb, _, rfl⟩
    · simp [pb]; omega
    · simp [pb]; omega
    · have h1 := flat_ps (fun d a => ps_R n d a) hb
      have h2 := psB_len (as := as)
      simp [pb]
      omega
end K01

set_option maxRecDepth 100000
set_option maxHeartbeats 1000000
namespace K01
open PySem L2 PyProof.Rows PySem.Spec Ab
theorem psS_app (a b : List (List Nat)) : psS (a ++ b) = psS a ++ psS b := by simp [psS]
theorem psS_len (a : List (List Nat)) : (psS a).length = a.length := by simp [psS]
def pcBody (g : Fn) : SM := (sSeq (sIf (mB (eN false (gEq false) (eVar 3) (eC (.str [103, 114, 111, 117, 112])))) (sAsg (eN true gAdd (eN false gAdd (eN false gAdd (eVar 1) (eLstF (aCons (eC (.str [40])) aNil))) (eCall g (aCons (eVar 4) aNil))) (eLstF (aCons (eC (.str [41])) aNil))) (sSet 1)) (sExpr (eMe isLs gAppend (eVar 1) (aCons (eIf (mB (eN false (gEq false) (eVar 3) (eC (.str [116, 101, 120, 116])))) (eN false gAdd (eN false gAdd (eC (.str [34])) (eVar 4)) (eC (.str [34]))) (eN false gAdd (eN false gAdd (eC (.str [91])) (eVar 4)) (eC (.str [93])))) aNil))))
    (sAsg (eN true gAdd (eVar 1) (eN false gMul (eLstF (aCons (eVar 5) aNil)) (eCB false gLen (aCons (eVar 5) aNil)))) (sSet 1)))
/-- one item's pieces are put behind those found -/
theorem item_pieces {g : Fn} {B : List D → List At → Prop} (hB : ∀ bs as, B bs as → (psB as).length ≤ 100000 ∧ ∀ μ Q, Q (.lst (psS (psB as))) μ → wF g [.lst bs] μ Q) {d : D} {a : At} (hI : ItP B d a) {μ μ1 : Sto} {c : Nat} {ps : List (List Nat)} {x0 x2 x3 x4 x5 : Option D} {K : KS}
    (hO : Own μ μ1 c (psS ps)) (hps : ps.length ≤ 500000) (hK : ∀ c' μ2 y3 y4 y5, Own μ μ2 c' (psS (ps ++ a.ps)) → K.n [x0, some (.ref (μ.length + c')), x2, y3, y4, y5] μ2) :
    wS (gTp 3 (gsCons (sSet 3) (gsCons (sSet 4) (gsCons (sSet 5) gsNil))) d) [x0, some (.ref (μ.length + c)), x2, x3, x4, x5] μ1 { K with n := fun Γ2 μ2 => wS (pcBody g) Γ2 μ2 K } := by
  -- the sign's part
  have tail : ∀ (s : List Nat), IsSg s → ∀ c' μ2 y3 y4 qs, Own μ μ2 c' (psS qs) → qs.length ≤ 900000 → (∀ c'' μ3, Own μ μ3 c'' (psS (qs ++ sgP s)) → K.n [x0, some (.ref (μ.length + c'')), x2, y3, y4, some (.str s)] μ3) →
      wS (sAsg (eN true gAdd (eVar 1) (eN false gMul (eLstF (aCons (eVar 5) aNil)) (eCB false gLen (aCons (eVar 5) aNil)))) (sSet 1)) [x0, some (.ref (μ.length + c')), x2, y3, y4, some (.str s)] μ2 K := by
    intro s hs c' μ2 y3 y4 qs hO2 hqs hk
    have hsl : s.length ≤ 1 := by
      unfold IsSg at hs
      simp at hs
      rcases hs with rfl | rfl | rfl | rfl <;> simp
    have e1 : gMul (.lst [.str s]) (.int (s.length : Int)) μ2 = some (.l (psS (sgP s))) := by
      rw [o_mulL l_lst ⟨by omega, by omega, by show 1 * _ ≤ 1000000; omega⟩]
      simp [psS, sgP]
    have e2 : gAdd (.ref (μ.length + c')) (.lst (psS (sgP s))) μ2 = some (.l (psS (qs ++ sgP s))) := by
      rw [o_addL (l_ref hO2.at_) l_lst (by have := sgP_len hs; rw [psS_len, psS_len]; show _ ≤ 1000000; omega), psS_app]
    simp only [w_bnd, w_ret, w_eC, w_var, w_opS, w_op, w_N, w_CB, w_CS, w_nil, w_cons, w_call, w_if, w_B, w_and, w_or, w_not, w_vAnd, w_vOr, w_vNot, w_neg, w_tup, w_lstF, w_lstC, w_chain, w_fld, w_sl, w_oN, w_oS, w_isLs, w_isSt, w_me, w_meth, w_methS, w_make, w_fmt, w_frz, w_isi, s_seq, s_next, s_set, s_asg, s_expr, s_ret, s_retN, s_if, s_cnt, s_brk, s_no, s_par, s_par3, s_tp, s_gsNil, s_gsCons, s_fld, s_fldT, s_sub, s_aug, s_fldA, s_augS, s_for, w_lc, w_src, w_srcL, w_srcT, w_srcS, w_srcR, w_rng1, wO_some, wO_none, List.getElem?_cons_zero, List.getElem?_cons_succ, List.set_cons_zero, List.set_cons_succ, fin_v, fin_lF, fin_lT, o_lenS, e1, e2]
    refine ⟨by simp, ?_⟩
    obtain ⟨c'', hc, hO3⟩ := hO2.add (ys := psS (qs ++ sgP s))
    rw [hc]
    exact hk c'' _ hO3
  obtain ⟨s, hs, h⟩ := hI
  have low3 : ∀ (p : Nat) (l : List Nat) (q : Nat) (ν : Sto), l.length ≤ 8 → gAdd (.str [p]) (.str l) ν = some (.v (.str (p :: l))) ∧ gAdd (.str (p :: l)) (.str [q]) ν = some (.v (.str (p :: l ++ [q]))) := fun p l q ν hl => by
    refine ⟨?_, ?_⟩
    · rw [o_addS (by simp [big]; omega)]; rfl
    · rw [o_addS (by simp [big]; omega)]
  rcases h with ⟨l, _, hl6, _, rfl, rfl⟩ | ⟨l, _, hl8, _, _, rfl, rfl⟩ | ⟨bs, as, hb, rfl, rfl⟩
  · rw [s_tp]
    refine ⟨_, rfl, rfl, ?_⟩
    simp only [s_gsCons, s_gsNil, s_set, List.set_cons_succ, List.set_cons_zero]
    unfold pcBody
    refine q_seq (fun Γ' μ' => ∃ c', Γ' = [x0, some (.ref (μ.length + c')), x2, some sText, some (.str l), some (.str s)] ∧ Own μ μ' c' (psS (ps ++ [34 :: l ++ [34]]))) ?_ ?_
    · have e0 : gEq false sText (.str [103, 114, 111, 117, 112]) μ1 = some (.v (.bl false)) := rfl
      have e1 : gEq false sText (.str [116, 101, 120, 116]) μ1 = some (.v (.bl true)) := rfl
      have lo : asL μ1 (.ref (μ.length + c)) = some (psS ps) := l_ref hO.at_
      simp only [w_bnd, w_ret, w_eC, w_var, w_opS, w_op, w_N, w_CB, w_CS, w_nil, w_cons, w_call, w_if, w_B, w_and, w_or, w_not, w_vAnd, w_vOr, w_vNot, w_neg, w_tup, w_lstF, w_lstC, w_chain, w_fld, w_sl, w_oN, w_oS, w_isLs, w_isSt, w_me, w_meth, w_methS, w_make, w_fmt, w_frz, w_isi, s_seq, s_next, s_set, s_asg, s_expr, s_ret, s_retN, s_if, s_cnt, s_brk, s_no, s_par, s_par3, s_tp, s_gsNil, s_gsCons, s_fld, s_fldT, s_sub, s_aug, s_fldA, s_augS, s_for, w_lc, w_src, w_srcL, w_srcT, w_srcS, w_srcR, w_rng1, wO_some, wO_none, List.getElem?_cons_zero, List.getElem?_cons_succ, List.set_cons_zero, List.set_cons_succ, fin_v, fin_lF, fin_lT, e0]
      refine ⟨_, rfl, ?_⟩
      simp only [Bool.false_eq_true, if_false, lo, wO_some, e1]
      refine ⟨_, rfl, ?_⟩
      simp only [if_true, (low3 34 l 34 μ1 (by omega)).1, (low3 34 l 34 μ1 (by omega)).2, wO_some, fin_v, o_append hO.at_ (by rw [psS_len]; show _ < 1000000; omega)]
      exact ⟨c, by first | trivial | rfl, by rw [psS_app]; exact hO.set⟩
    rintro Γ' μ' ⟨c', rfl, hO'⟩
    exact tail s hs c' μ' _ _ _ hO' (by simp; omega) fun c'' μ3 h3 => hK c'' μ3 _ _ _ (by simpa using h3)
  · rw [s_tp]
    refine ⟨_, rfl, rfl, ?_⟩
    simp only [s_gsCons, s_gsNil, s_set, List.set_cons_succ, List.set_cons_zero]
    unfold pcBody
    refine q_seq (fun Γ' μ' => ∃ c', Γ' = [x0, some (.ref (μ.length + c')), x2, some sSetW, some (.str l), some (.str s)] ∧ Own μ μ' c' (psS (ps ++ [91 :: l ++ [93]]))) ?_ ?_
    · have e0 : gEq false sSetW (.str [103, 114, 111, 117, 112]) μ1 = some (.v (.bl false)) := rfl
      have e1 : gEq false sSetW (.str [116, 101, 120, 116]) μ1 = some (.v (.bl false)) := rfl
      have lo : asL μ1 (.ref (μ.length + c)) = some (psS ps) := l_ref hO.at_
      simp only [w_bnd, w_ret, w_eC, w_var, w_opS, w_op, w_N, w_CB, w_CS, w_nil, w_cons, w_call, w_if, w_B, w_and, w_or, w_not, w_vAnd, w_vOr, w_vNot, w_neg, w_tup, w_lstF, w_lstC, w_chain, w_fld, w_sl, w_oN, w_oS, w_isLs, w_isSt, w_me, w_meth, w_methS, w_make, w_fmt, w_frz, w_isi, s_seq, s_next, s_set, s_asg, s_expr, s_ret, s_retN, s_if, s_cnt, s_brk, s_no, s_par, s_par3, s_tp, s_gsNil, s_gsCons, s_fld, s_fldT, s_sub, s_aug, s_fldA, s_augS, s_for, w_lc, w_src, w_srcL, w_srcT, w_srcS, w_srcR, w_rng1, wO_some, wO_none, List.getElem?_cons_zero, List.getElem?_cons_succ, List.set_cons_zero, List.set_cons_succ, fin_v, fin_lF, fin_lT, e0]
      refine ⟨_, rfl, ?_⟩
      simp only [Bool.false_eq_true, if_false, lo, wO_some, e1]
      refine ⟨_, rfl, ?_⟩
      simp only [Bool.false_eq_true, if_false, (low3 91 l 93 μ1 (by omega)).1, (low3 91 l 93 μ1 (by omega)).2, wO_some, fin_v, o_append hO.at_ (by rw [psS_len]; show _ < 1000000; omega)]
      exact ⟨c, by first | trivial | rfl, by rw [psS_app]; exact hO.set⟩
    rintro Γ' μ' ⟨c', rfl, hO'⟩
    exact tail s hs c' μ' _ _ _ hO' (by simp; omega) fun c'' μ3 h3 => hK c'' μ3 _ _ _ (by simpa using h3)
  · obtain ⟨hlen, hcall⟩ := hB bs as hb
    rw [s_tp]
    refine ⟨_, rfl, rfl, ?_⟩
    simp only [s_gsCons, s_gsNil, s_set, List.set_cons_succ, List.set_cons_zero]
    unfold pcBody
    refine q_seq (fun Γ' μ' => ∃ c', Γ' = [x0, some (.ref (μ.length + c')), x2, some sGroup, some (.lst bs), some (.str s)] ∧ Own μ μ' c' (psS (ps ++ [[40]] ++ psB as ++ [[41]]))) ?_ ?_
    · have e0 : gEq false sGroup (.str [103, 114, 111, 117, 112]) μ1 = some (.v (.bl true)) := rfl
      have a1 : gAdd (.ref (μ.length + c)) (.lst [.str [40]]) μ1 = some (.l (psS (ps ++ [[40]]))) := by
        rw [o_addL (l_ref hO.at_) l_lst (by rw [psS_len]; show _ + 1 ≤ 1000000; omega), psS_app]
        rfl
      have a2 : gAdd (.lst (psS (ps ++ [[40]]))) (.lst (psS (psB as))) μ1 = some (.l (psS (ps ++ [[40]] ++ psB as))) := by
        rw [o_addL l_lst l_lst (by rw [psS_len, psS_len]; simp [big]; omega), ← psS_app]
      have a3 : gAdd (.lst (psS (ps ++ [[40]] ++ psB as))) (.lst [.str [41]]) μ1 = some (.l (psS (ps ++ [[40]] ++ psB as ++ [[41]]))) := by
        rw [o_addL l_lst l_lst (by rw [psS_len]; simp [big]; omega), psS_app (ps ++ [[40]] ++ psB as)]
        rfl
      simp only [w_bnd, w_ret, w_eC, w_var, w_opS, w_op, w_N, w_CB, w_CS, w_nil, w_cons, w_call, w_if, w_B, w_and, w_or, w_not, w_vAnd, w_vOr, w_vNot, w_neg, w_tup, w_lstF, w_lstC, w_chain, w_fld, w_sl, w_oN, w_oS, w_isLs, w_isSt, w_me, w_meth, w_methS, w_make, w_fmt, w_frz, w_isi, s_seq, s_next, s_set, s_asg, s_expr, s_ret, s_retN, s_if, s_cnt, s_brk, s_no, s_par, s_par3, s_tp, s_gsNil, s_gsCons, s_fld, s_fldT, s_sub, s_aug, s_fldA, s_augS, s_for, w_lc, w_src, w_srcL, w_srcT, w_srcS, w_srcR, w_rng1, wO_some, wO_none, List.getElem?_cons_zero, List.getElem?_cons_succ, List.set_cons_zero, List.set_cons_succ, fin_v, fin_lF, fin_lT, e0]
      refine ⟨_, rfl, ?_⟩
      simp only [if_true, a1, wO_some, fin_lF]
      refine ⟨by simp, hcall _ _ ?_⟩
      simp only [a2, wO_some, fin_lF, a3, fin_lT]
      refine ⟨by simp, ?_⟩
      obtain ⟨c', hc, hO3⟩ := hO.add (ys := psS (ps ++ [[40]] ++ psB as ++ [[41]]))
      rw [hc]
      exact ⟨c', by first | trivial | rfl, hO3⟩
    rintro Γ' μ' ⟨c', rfl, hO'⟩
    exact tail s hs c' μ' _ _ _ hO' (by simp; omega) fun c'' μ3 h3 => hK c'' μ3 _ _ _ (by simpa using h3)
end K01

set_option maxRecDepth 100000
set_option maxHeartbeats 1000000
namespace K01
open PySem L2 PyProof.Rows PySem.Spec Ab
theorem pb_le {n : Nat} (h : n ≤ 4) : pb n ≤ 60000 := by
  have : n = 0 ∨ n = 1 ∨ n = 2 ∨ n = 3 ∨ n = 4 := by omega
  rcases this with rfl | rfl | rfl | rfl | rfl <;> decide
theorem take_snoc {α : Type} {xs : List α} {i : Nat} {x : α} (h : xs[i]? = some x) : xs.take (i + 1) = xs.take i ++ [x] := by
  rw [List.take_add_one, h]
  rfl
theorem cut_last {α : Type} (xs : List α) : cutL xs none (some (-1)) = xs.dropLast := by
  unfold cutL
  have e : HT.sIx xs.length xs.length (some (-1)) = xs.length - 1 := by
    show (if (-1 : Int) < 0 then ((-1 : Int) + (xs.length : Int)).toNat else min (-1 : Int).toNat xs.length) = _
    rw [if_pos (by decide)]
    omega
  have e0 : HT.sIx xs.length 0 none = 0 := rfl
  rw [e, e0, List.drop_zero, Nat.sub_zero, List.dropLast_eq_take]
def PcsOk (m : Nat) : Prop := ∀ n bs as μ Q, n < m → n ≤ 3 → BrsP (ItR n) bs as → Q (.lst (psS (psB as))) μ → wF (F_l_pieces m) [.lst bs] μ Q
theorem flat_sub {as : List At} (i : Nat) : (flat (as.take i)).length ≤ (flat as).length := by
  have h : flat as = flat (as.take i) ++ flat (as.drop i) := by
    unfold flat
    rw [← List.flatten_append, ← List.map_append, List.take_append_drop]
  rw [h, List.length_append]
  omega
theorem pieces_step {m : Nat} (hrec : PcsOk m) : PcsOk (m + 1) := by
  intro n bs as μ Q hnm hn3 hR hQ
  have hfl := flat_ps (fun d a => ps_R n d a) hR
  have hpn := pb_le (n := n) (by omega)
  have hpn3 : pb n ≤ 5000 := by
    have : n = 0 ∨ n = 1 ∨ n = 2 ∨ n = 3 := by omega
    rcases this with rfl | rfl | rfl | rfl <;> decide
  have hB : ∀ d a, ItR n d a → ∃ B : List D → List At → Prop, ItP B d a ∧ ∀ bs as, B bs as → (psB as).length ≤ 100000 ∧ ∀ μ Q, Q (.lst (psS (psB as))) μ → wF (F_l_pieces m) [.lst bs] μ Q := by
    intro d a h
    cases n with
    | zero => exact ⟨_, h, fun _ _ h => h.elim⟩
    | succ n =>
      refine ⟨_, h, fun bs as hb => ⟨?_, fun μ Q hq => hrec n bs as μ Q (by omega) (by omega) hb hq⟩⟩
      have h1 := flat_ps (fun d a => ps_R n d a) hb
      have h2 := psB_len (as := as)
      have h3 := pb_le (n := n) (by omega)
      have : pb n ≤ 5000 := by
        have : n = 0 ∨ n = 1 ∨ n = 2 := by omega
        rcases this with rfl | rfl | rfl <;> decide
      omega
  show wF (body 6 1 (m_l_pieces (F_l_pieces m))) _ μ Q
  rw [f_body]
  refine ⟨rfl, ?_⟩
  show wS _ [some (.lst bs), none, none, none, none, none] μ _
  unfold m_l_pieces
  refine q_seq (fun Γ' μ' => ∃ c x2 x3 x4 x5, Γ' = [some (.lst bs), some (.ref (μ.length + c)), x2, x3, x4, x5] ∧ Own μ μ' c []) ?_ ?_
  · simp only [w_bnd, w_ret, w_eC, w_var, w_opS, w_op, w_N, w_CB, w_CS, w_nil, w_cons, w_call, w_if, w_B, w_and, w_or, w_not, w_vAnd, w_vOr, w_vNot, w_neg, w_tup, w_lstF, w_lstC, w_chain, w_fld, w_sl, w_oN, w_oS, w_isLs, w_isSt, w_me, w_meth, w_methS, w_make, w_fmt, w_frz, w_isi, s_seq, s_next, s_set, s_asg, s_expr, s_ret, s_retN, s_if, s_cnt, s_brk, s_no, s_par, s_par3, s_tp, s_gsNil, s_gsCons, s_fld, s_fldT, s_sub, s_aug, s_fldA, s_augS, s_for, w_lc, w_src, w_srcL, w_srcT, w_srcS, w_srcR, w_rng1, wO_some, wO_none, List.getElem?_cons_zero, List.getElem?_cons_succ, List.set_cons_zero, List.set_cons_succ, fin_v, fin_lF, fin_lT]
    exact ⟨by simp, 0, none, none, none, none, rfl, [.lst []], rfl, rfl⟩
  rintro Γ' μ' ⟨c, x2, x3, x4, x5, rfl, hO⟩
  refine q_seq (fun Γ' μ' => ∃ c x2 x3 x4 x5, Γ' = [some (.lst bs), some (.ref (μ.length + c)), x2, x3, x4, x5] ∧ Own μ μ' c (psS (flat as))) ?_ ?_
  · rw [s_for, w_src]
    simp only [w_var, List.getElem?_cons_zero, wO_some, w_srcL]
    refine s_fix (fun i Γ' μ' => ∃ c x2 x3 x4 x5, Γ' = [some (.lst bs), some (.ref (μ.length + c)), x2, x3, x4, x5] ∧ Own μ μ' c (psS (flat (as.take i)))) ⟨c, x2, x3, x4, x5, rfl, hO⟩ ?_ ?_
    · rintro i d Γ1 μ1 hd ⟨c, x2, x3, x4, x5, rfl, hO⟩
      have hi : i < as.length := by rw [← hR.2.2.1]; exact (List.getElem?_eq_some_iff.mp hd).1
      obtain ⟨ds, is, rfl, hne, hd4, hds, ha⟩ := hR.2.2.2 i d as[i] hd (List.getElem?_eq_getElem hi)
      have hfi := flat_sub (as := as) i
      have hpsis : ∀ j, ((is.take j).map (·.ps)).flatten.length ≤ 4 * pb n := fun j => by
        have h1 := bAt_ps (fun d a => ps_R n d a) hds hd4
        have h2 : (is.map (·.ps)).flatten = ((is.take j).map (·.ps)).flatten ++ ((is.drop j).map (·.ps)).flatten := by
          rw [← List.flatten_append, ← List.map_append, List.take_append_drop]
        have h3 : (is.map (·.ps)).flatten.length ≤ 4 * pb n := h1
        rw [h2, List.length_append] at h3
        omega
      simp only [s_set, List.set_cons_succ, List.set_cons_zero]
      refine q_seq (fun Γ' μ' => ∃ c x3 x4 x5, Γ' = [some (.lst bs), some (.ref (μ.length + c)), some (.lst ds), x3, x4, x5] ∧ Own μ μ' c (psS (flat (as.take i) ++ (is.map (·.ps)).flatten))) ?_ ?_
      · rw [s_for, w_src]
        simp only [w_var, List.getElem?_cons_zero, List.getElem?_cons_succ, wO_some, w_srcL]
        refine s_fix (fun j Γ' μ' => ∃ c x3 x4 x5, Γ' = [some (.lst bs), some (.ref (μ.length + c)), some (.lst ds), x3, x4, x5] ∧ Own μ μ' c (psS (flat (as.take i) ++ ((is.take j).map (·.ps)).flatten))) ⟨c, x3, x4, x5, rfl, by simpa using hO⟩ ?_ ?_
        · rintro j e Γ2 μ2 he ⟨c, x3, x4, x5, rfl, hO⟩
          have hj : j < is.length := by rw [← hds.1]; exact (List.getElem?_eq_some_iff.mp he).1
          obtain ⟨B, hIt, hBB⟩ := hB e is[j] (hds.2 j e is[j] he (List.getElem?_eq_getElem hj))
          have hpj := hpsis j
          refine item_pieces (g := F_l_pieces m) hBB hIt hO (by rw [List.length_append]; omega) fun c' μ3 y3 y4 y5 hO3 => ⟨c', y3, y4, y5, rfl, ?_⟩
          rw [take_snoc (List.getElem?_eq_getElem hj), List.map_append, List.flatten_append, ← List.append_assoc]
          simpa only [List.map_cons, List.map_nil, List.flatten_cons, List.flatten_nil, List.append_nil] using hO3
        · rintro Γ2 μ2 ⟨c, x3, x4, x5, rfl, hO⟩
          rw [hds.1, List.take_length] at hO
          exact ⟨c, x3, x4, x5, rfl, hO⟩
      rintro Γ2 μ2 ⟨c, x3, x4, x5, rfl, hO⟩
      have hp := hpsis is.length
      rw [List.take_length] at hp
      simp only [w_bnd, w_ret, w_eC, w_var, w_opS, w_op, w_N, w_CB, w_CS, w_nil, w_cons, w_call, w_if, w_B, w_and, w_or, w_not, w_vAnd, w_vOr, w_vNot, w_neg, w_tup, w_lstF, w_lstC, w_chain, w_fld, w_sl, w_oN, w_oS, w_isLs, w_isSt, w_me, w_meth, w_methS, w_make, w_fmt, w_frz, w_isi, s_seq, s_next, s_set, s_asg, s_expr, s_ret, s_retN, s_if, s_cnt, s_brk, s_no, s_par, s_par3, s_tp, s_gsNil, s_gsCons, s_fld, s_fldT, s_sub, s_aug, s_fldA, s_augS, s_for, w_lc, w_src, w_srcL, w_srcT, w_srcS, w_srcR, w_rng1, wO_some, wO_none, List.getElem?_cons_zero, List.getElem?_cons_succ, List.set_cons_zero, List.set_cons_succ, fin_v, fin_lF, fin_lT, l_ref hO.at_, o_append hO.at_ (show (psS (flat (as.take i) ++ (is.map (·.ps)).flatten)).length < big by rw [psS_len, List.length_append]; show _ < 1000000; omega)]
      refine ⟨c, some (.lst ds), x3, x4, x5, by first | trivial | rfl, ?_⟩
      have e1 : flat (as.take (i + 1)) = flat (as.take i) ++ (is.map (·.ps)).flatten ++ [[124]] := by
        rw [take_snoc (List.getElem?_eq_getElem hi), ha]
        unfold flat
        simp [bAt]
      rw [e1, psS_app _ [[124]]]
      exact hO.set
    · rintro Γ1 μ1 ⟨c, x2, x3, x4, x5, rfl, hO⟩
      rw [hR.2.2.1, List.take_length] at hO
      exact ⟨c, x2, x3, x4, x5, rfl, hO⟩
  rintro Γ' μ' ⟨c, x2, x3, x4, x5, rfl, hO⟩
  have e1 : gSl (.ref (μ.length + c)) none (some (-1)) μ' = some (.l (psS (psB as))) := by
    have e2 : asL μ' (.ref (μ.length + c)) = some (psS (flat as)) := l_ref hO.at_
    simp only [gSl, e2, Option.map_some]
    rw [cut_last]
    simp [psB, flat, psS, List.map_dropLast]
  simp only [w_bnd, w_ret, w_eC, w_var, w_opS, w_op, w_N, w_CB, w_CS, w_nil, w_cons, w_call, w_if, w_B, w_and, w_or, w_not, w_vAnd, w_vOr, w_vNot, w_neg, w_tup, w_lstF, w_lstC, w_chain, w_fld, w_sl, w_oN, w_oS, w_isLs, w_isSt, w_me, w_meth, w_methS, w_make, w_fmt, w_frz, w_isi, s_seq, s_next, s_set, s_asg, s_expr, s_ret, s_retN, s_if, s_cnt, s_brk, s_no, s_par, s_par3, s_tp, s_gsNil, s_gsCons, s_fld, s_fldT, s_sub, s_aug, s_fldA, s_augS, s_for, w_lc, w_src, w_srcL, w_srcT, w_srcS, w_srcR, w_rng1, wO_some, wO_none, List.getElem?_cons_zero, List.getElem?_cons_succ, List.set_cons_zero, List.set_cons_succ, fin_v, fin_lF, fin_lT]
  refine ⟨_, rfl, _, rfl, ?_⟩
  simp only [e1, wO_some, fin_lF]
  rw [hO.leave (fun k => by simp only [refsLt]; exact noref_strs _ k)]
  exact hQ
theorem pieces_all : ∀ m, PcsOk m
  | 0 => fun n bs as μ Q h => absurd h (Nat.not_lt_zero _)
  | m + 1 => pieces_step (pieces_all m)
end K01

set_option maxRecDepth 100000
set_option maxHeartbeats 1000000
namespace K01
open PySem L2 PyProof.Rows PySem.Spec Ab
/-! ### the written text -/
def wl : Nat → Nat
  | 0 => 11
  | n + 1 => 3 + 3 * (4 * (wl n + 1) + 3)
theorem sum_le {B : Nat} : ∀ {ls : List (List Nat)}, (∀ x ∈ ls, x.length ≤ B) → (ls.map (·.length)).sum ≤ ls.length * B
  | [], _ => by simp
  | x :: ls, h => by
    have h1 := h x (by simp)
    have h2 := sum_le (ls := ls) fun y hy => h y (by simp [hy])
    simp only [List.map_cons, List.sum_cons, List.length_cons, Nat.add_mul, Nat.one_mul]
    omega
theorem join_le {B : Nat} {a : List Nat} {ls : List (List Nat)} (h : ∀ x ∈ ls, x.length ≤ B) : (TL.joinL a ls).length ≤ ls.length * (B + a.length) := by
  have h1 := joinL_len a ls
  have h2 := sum_le h
  rw [Nat.mul_add]
  omega
theorem IsSg.len {s : List Nat} (hs : IsSg s) : s.length ≤ 1 := by
  unfold IsSg at hs
  simp at hs
  rcases hs with rfl | rfl | rfl | rfl <;> simp
theorem bAt_w {n : Nat} {I : D → At → Prop} (hI : ∀ d a, I d a → a.w.length ≤ n) {ds : List D} {is : List At} (h : All2 I ds is) (h4 : ds.length ≤ 4) : (bAt is).w.length ≤ 4 * (n + 1) := by
  have h1 : (TL.joinL [32] (is.map (·.w))).length ≤ (is.map (·.w)).length * (n + 1) := join_le fun x hx => by
    obtain ⟨a, ha, rfl⟩ := List.mem_map.mp hx
    obtain ⟨d, _, hd⟩ := h.mem' ha
    exact hI d a hd
  have h2 : (is.map (·.w)).length * (n + 1) ≤ 4 * (n + 1) := Nat.mul_le_mul_right _ (by rw [List.length_map, ← h.1]; exact h4)
  exact Nat.le_trans h1 h2
theorem wB_len {n : Nat} {I : D → At → Prop} (hI : ∀ d a, I d a → a.w.length ≤ n) {bs : List D} {as : List At} (h : BrsP I bs as) : (wB as).length ≤ 3 * (4 * (n + 1) + 3) := by
  have h1 : (wB as).length ≤ (as.map (·.w)).length * (4 * (n + 1) + 3) := join_le fun x hx => by
    obtain ⟨a, ha, rfl⟩ := List.mem_map.mp hx
    obtain ⟨d, _, ds, is, _, _, h4, hd, rfl⟩ := h.2.2.mem' ha
    exact bAt_w hI hd h4
  have h2 : (as.map (·.w)).length * (4 * (n + 1) + 3) ≤ 3 * (4 * (n + 1) + 3) := Nat.mul_le_mul_right _ (by rw [List.length_map, ← h.2.2.1]; exact h.2.1)
  exact Nat.le_trans h1 h2
theorem w_R : ∀ (n : Nat) (d : D) (a : At), ItR n d a → a.w.length ≤ wl n
  | 0, d, a, ⟨s, hs, h⟩ => by
    have := hs.len
    rcases h with ⟨l, _, _, _, _, rfl⟩ | ⟨l, _, _, _, _, _, rfl⟩ | ⟨bs, as, hb, _⟩
    · simp [wl]; omega
    · simp [wl]; omega
    · exact hb.elim
  | n + 1, d, a, ⟨s, hs, h⟩ => by
    have := hs.len
    rcases h with ⟨l, _, _, _, _, rfl⟩ | ⟨l, _, _, _, _, _, rfl⟩ | ⟨bs, as, hb, _, rfl⟩
    · simp [wl]; omega
    · simp [wl]; omega
    · have h1 := wB_len (fun d a => w_R n d a) hb
      simp [wl]
      omega
theorem wl_le {n : Nat} (h : n ≤ 3) : wl n ≤ 30000 := by
  have : n = 0 ∨ n = 1 ∨ n = 2 ∨ n = 3 := by omega
  rcases this with rfl | rfl | rfl | rfl <;> decide
end K01

set_option maxRecDepth 100000
set_option maxHeartbeats 1000000
namespace K01
open PySem L2 PyProof.Rows PySem.Spec Ab
theorem Own.other {μ μ1 : Sto} {c e : Nat} {xs ys : List D} (h : Own μ μ1 c xs) (he : e ≠ c) : Own μ (μ1.set (μ.length + e) (.lst ys)) c xs := by
  obtain ⟨l, rfl, h⟩ := h
  exact ⟨l.set e (.lst ys), by rw [new_set rfl], by rw [List.getElem?_set_ne he]; exact h⟩
theorem Own.more {μ μ1 : Sto} {c : Nat} {xs : List D} {o : O} (h : Own μ μ1 c xs) : Own μ (μ1 ++ [o]) c xs := by
  obtain ⟨l, rfl, h⟩ := h
  exact ⟨l ++ [o], by simp, by rw [List.getElem?_append_left (List.getElem?_eq_some_iff.mp h).1]; exact h⟩
theorem Own.lt {μ μ1 : Sto} {c : Nat} {xs : List D} (h : Own μ μ1 c xs) : μ.length + c < μ1.length := by
  obtain ⟨l, rfl, h⟩ := h
  have := (List.getElem?_eq_some_iff.mp h).1
  simp; omega
theorem strs_psS (ps : List (List Nat)) : asStrs (psS ps) = some ps := by
  induction ps with
  | nil => rfl
  | cons p ps ih =>
    show (asStrs (psS ps)).map (p :: ·) = _
    rw [ih]; rfl
theorem o_join {μ : Sto} {x : D} {a : List Nat} {ps : List (List Nat)} (hx : asSeq μ x = some (psS ps)) (h : (ps.map (·.length)).sum + ps.length * a.length ≤ big) : gJoin (.str a) [x] μ = some (.str (TL.joinL a ps), μ) := by
  simp only [gJoin, hx, strs_psS, if_pos h]
theorem q_ref {μ : Sto} {k : Nat} {ds : List D} (h : μ[k]? = some (.lst ds)) : asSeq μ (.ref k) = some ds := by simp [asSeq, asL, h]
def wrBody (g : Fn) : SM := (sSeq (sAsg (eIf (mB (eN false (gEq false) (eVar 4) (eC (.str [116, 101, 120, 116])))) (eN false gAdd (eN false gAdd (eC (.str [34])) (eVar 5)) (eC (.str [34]))) (eIf (mB (eN false (gEq false) (eVar 4) (eC (.str [115, 101, 116])))) (eN false gAdd (eN false gAdd (eC (.str [91])) (eVar 5)) (eC (.str [93]))) (eC (.str [])))) (sSet 7))
    (sExpr (eMe isLs gAppend (eVar 3) (aCons (eN false gAdd (eIf (mB (eN false (gEq true) (eVar 4) (eC (.str [103, 114, 111, 117, 112])))) (eVar 7) (eN false gAdd (eN false gAdd (eC (.str [40])) (eCall g (aCons (eVar 5) aNil))) (eC (.str [41])))) (eVar 6)) aNil))))
theorem item_written {g : Fn} {B : List D → List At → Prop} (hB : ∀ bs as, B bs as → (wB as).length ≤ 100000 ∧ ∀ μ Q, Q (.str (wB as)) μ → wF g [.lst bs] μ Q) {d : D} {a : At} (hI : ItP B d a) {μ μ1 : Sto} {c : Nat} {ps : List (List Nat)} {x0 x1 x2 x4 x5 x6 x7 : Option D} {K : KS}
    (hO : Own μ μ1 c (psS ps)) (hps : ps.length ≤ 1000) (hK : ∀ y4 y5 y6 y7, K.n [x0, x1, x2, some (.ref (μ.length + c)), y4, y5, y6, y7] (μ1.set (μ.length + c) (.lst (psS (ps ++ [a.w]))))) :
    wS (gTp 3 (gsCons (sSet 4) (gsCons (sSet 5) (gsCons (sSet 6) gsNil))) d) [x0, x1, x2, some (.ref (μ.length + c)), x4, x5, x6, x7] μ1 { K with n := fun Γ2 μ2 => wS (wrBody g) Γ2 μ2 K } := by
  obtain ⟨s, hs, h⟩ := hI
  have hsl := hs.len
  have low3 : ∀ (p : Nat) (l : List Nat) (q : Nat) (ν : Sto), l.length ≤ 100000 → gAdd (.str [p]) (.str l) ν = some (.v (.str (p :: l))) ∧ gAdd (.str (p :: l)) (.str [q]) ν = some (.v (.str (p :: l ++ [q]))) ∧ gAdd (.str (p :: l ++ [q])) (.str s) ν = some (.v (.str ((p :: l ++ [q]) ++ s))) := fun p l q ν hl => by
    refine ⟨?_, ?_, ?_⟩
    · rw [o_addS (by simp [big]; omega)]; rfl
    · rw [o_addS (by simp [big]; omega)]
    · rw [o_addS (by simp [big]; omega)]
  have lo : asL μ1 (.ref (μ.length + c)) = some (psS ps) := l_ref hO.at_
  have ap : ∀ w : List Nat, gAppend (.ref (μ.length + c)) [.str w] μ1 = some (.non, μ1.set (μ.length + c) (.lst (psS (ps ++ [w])))) := fun w => by
    rw [o_append hO.at_ (by rw [psS_len]; show _ < 1000000; omega), psS_app]; rfl
  rcases h with ⟨l, _, hl6, _, rfl, rfl⟩ | ⟨l, _, hl8, _, _, rfl, rfl⟩ | ⟨bs, as, hb, rfl, rfl⟩
  · rw [s_tp]
    refine ⟨_, rfl, rfl, ?_⟩
    have e1 : gEq false sText (.str [116, 101, 120, 116]) μ1 = some (.v (.bl true)) := rfl
    have e2 : gEq true sText (.str [103, 114, 111, 117, 112]) μ1 = some (.v (.bl true)) := rfl
    obtain ⟨a1, a2, a3⟩ := low3 34 l 34 μ1 (by omega)
    unfold wrBody
    simp only [w_bnd, w_ret, w_eC, w_var, w_opS, w_op, w_N, w_CB, w_CS, w_nil, w_cons, w_call, w_if, w_B, w_and, w_or, w_not, w_vAnd, w_vOr, w_vNot, w_neg, w_tup, w_lstF, w_lstC, w_chain, w_fld, w_sl, w_oN, w_oS, w_isLs, w_isSt, w_me, w_meth, w_methS, w_make, w_fmt, w_frz, w_isi, s_seq, s_next, s_set, s_asg, s_expr, s_ret, s_retN, s_if, s_cnt, s_brk, s_no, s_par, s_par3, s_tp, s_gsNil, s_gsCons, s_fld, s_fldT, s_sub, s_aug, s_fldA, s_augS, s_for, w_lc, w_src, w_srcL, w_srcT, w_srcS, w_srcR, w_rng1, wO_some, wO_none, List.getElem?_cons_zero, List.getElem?_cons_succ, List.set_cons_zero, List.set_cons_succ, fin_v, fin_lF, fin_lT, e1]
    refine ⟨_, rfl, ?_⟩
    simp only [if_true, a1, a2, wO_some, fin_v, lo, e2]
    refine ⟨_, rfl, ?_⟩
    simp only [if_true, a3, wO_some, fin_v, ap]
    exact hK _ _ _ _
  · rw [s_tp]
    refine ⟨_, rfl, rfl, ?_⟩
    have e1 : gEq false sSetW (.str [116, 101, 120, 116]) μ1 = some (.v (.bl false)) := rfl
    have e1' : gEq false sSetW (.str [115, 101, 116]) μ1 = some (.v (.bl true)) := rfl
    have e2 : gEq true sSetW (.str [103, 114, 111, 117, 112]) μ1 = some (.v (.bl true)) := rfl
    obtain ⟨a1, a2, a3⟩ := low3 91 l 93 μ1 (by omega)
    unfold wrBody
    simp only [w_bnd, w_ret, w_eC, w_var, w_opS, w_op, w_N, w_CB, w_CS, w_nil, w_cons, w_call, w_if, w_B, w_and, w_or, w_not, w_vAnd, w_vOr, w_vNot, w_neg, w_tup, w_lstF, w_lstC, w_chain, w_fld, w_sl, w_oN, w_oS, w_isLs, w_isSt, w_me, w_meth, w_methS, w_make, w_fmt, w_frz, w_isi, s_seq, s_next, s_set, s_asg, s_expr, s_ret, s_retN, s_if, s_cnt, s_brk, s_no, s_par, s_par3, s_tp, s_gsNil, s_gsCons, s_fld, s_fldT, s_sub, s_aug, s_fldA, s_augS, s_for, w_lc, w_src, w_srcL, w_srcT, w_srcS, w_srcR, w_rng1, wO_some, wO_none, List.getElem?_cons_zero, List.getElem?_cons_succ, List.set_cons_zero, List.set_cons_succ, fin_v, fin_lF, fin_lT, e1]
    refine ⟨_, rfl, ?_⟩
    simp only [Bool.false_eq_true, if_false, e1', wO_some, fin_v]
    refine ⟨_, rfl, ?_⟩
    simp only [if_true, a1, a2, wO_some, fin_v, lo, e2]
    refine ⟨_, rfl, ?_⟩
    simp only [if_true, a3, wO_some, fin_v, ap]
    exact hK _ _ _ _
  · obtain ⟨hlen, hcall⟩ := hB bs as hb
    rw [s_tp]
    refine ⟨_, rfl, rfl, ?_⟩
    have e1 : gEq false sGroup (.str [116, 101, 120, 116]) μ1 = some (.v (.bl false)) := rfl
    have e1' : gEq false sGroup (.str [115, 101, 116]) μ1 = some (.v (.bl false)) := rfl
    have e2 : gEq true sGroup (.str [103, 114, 111, 117, 112]) μ1 = some (.v (.bl false)) := rfl
    obtain ⟨a1, a2, a3⟩ := low3 40 (wB as) 41 μ1 (by omega)
    unfold wrBody
    simp only [w_bnd, w_ret, w_eC, w_var, w_opS, w_op, w_N, w_CB, w_CS, w_nil, w_cons, w_call, w_if, w_B, w_and, w_or, w_not, w_vAnd, w_vOr, w_vNot, w_neg, w_tup, w_lstF, w_lstC, w_chain, w_fld, w_sl, w_oN, w_oS, w_isLs, w_isSt, w_me, w_meth, w_methS, w_make, w_fmt, w_frz, w_isi, s_seq, s_next, s_set, s_asg, s_expr, s_ret, s_retN, s_if, s_cnt, s_brk, s_no, s_par, s_par3, s_tp, s_gsNil, s_gsCons, s_fld, s_fldT, s_sub, s_aug, s_fldA, s_augS, s_for, w_lc, w_src, w_srcL, w_srcT, w_srcS, w_srcR, w_rng1, wO_some, wO_none, List.getElem?_cons_zero, List.getElem?_cons_succ, List.set_cons_zero, List.set_cons_succ, fin_v, fin_lF, fin_lT, e1]
    refine ⟨_, rfl, ?_⟩
    simp only [Bool.false_eq_true, if_false, e1', wO_some, fin_v]
    refine ⟨_, rfl, ?_⟩
    simp only [Bool.false_eq_true, if_false, wO_some, fin_v, lo, e2]
    refine ⟨_, rfl, ?_⟩
    simp only [Bool.false_eq_true, if_false]
    refine hcall _ _ ?_
    simp only [a1, a2, a3, wO_some, fin_v, ap]
    exact hK _ _ _ _
def WrOk (m : Nat) : Prop := ∀ n bs as μ Q, n < m → n ≤ 3 → BrsP (ItR n) bs as → Q (.str (wB as)) μ → wF (F_l_written m) [.lst bs] μ Q
theorem wsum {ls : List (List Nat)} {a : List Nat} {B k : Nat} (h : ∀ x ∈ ls, x.length ≤ B) (hl : ls.length ≤ k) : (ls.map (·.length)).sum + ls.length * a.length ≤ k * (B + a.length) := by
  have h2 := sum_le h
  have h3 : ls.length * (B + a.length) ≤ k * (B + a.length) := Nat.mul_le_mul_right _ hl
  rw [Nat.mul_add] at h3
  omega
theorem written_step {m : Nat} (hrec : WrOk m) : WrOk (m + 1) := by
  intro n bs as μ Q hnm hn3 hR hQ
  have hwl := wl_le hn3
  have hB : ∀ d a, ItR n d a → ∃ B : List D → List At → Prop, ItP B d a ∧ ∀ bs as, B bs as → (wB as).length ≤ 100000 ∧ ∀ μ Q, Q (.str (wB as)) μ → wF (F_l_written m) [.lst bs] μ Q := by
    intro d a h
    cases n with
    | zero => exact ⟨_, h, fun _ _ h => h.elim⟩
    | succ n =>
      refine ⟨_, h, fun bs as hb => ⟨?_, fun μ Q hq => hrec n bs as μ Q (by omega) (by omega) hb hq⟩⟩
      have h1 := wB_len (fun d a => w_R n d a) hb
      have : wl (n + 1) = 3 + 3 * (4 * (wl n + 1) + 3) := rfl
      omega
  show wF (body 8 1 (m_l_written (F_l_written m))) _ μ Q
  rw [f_body]
  refine ⟨rfl, ?_⟩
  show wS _ [some (.lst bs), none, none, none, none, none, none, none] μ _
  unfold m_l_written
  refine q_seq (fun Γ' μ' => ∃ x2 x3 x4 x5 x6 x7, Γ' = [some (.lst bs), some (.ref (μ.length + 0)), x2, x3, x4, x5, x6, x7] ∧ Own μ μ' 0 []) ?_ ?_
  · simp only [w_bnd, w_ret, w_eC, w_var, w_opS, w_op, w_N, w_CB, w_CS, w_nil, w_cons, w_call, w_if, w_B, w_and, w_or, w_not, w_vAnd, w_vOr, w_vNot, w_neg, w_tup, w_lstF, w_lstC, w_chain, w_fld, w_sl, w_oN, w_oS, w_isLs, w_isSt, w_me, w_meth, w_methS, w_make, w_fmt, w_frz, w_isi, s_seq, s_next, s_set, s_asg, s_expr, s_ret, s_retN, s_if, s_cnt, s_brk, s_no, s_par, s_par3, s_tp, s_gsNil, s_gsCons, s_fld, s_fldT, s_sub, s_aug, s_fldA, s_augS, s_for, w_lc, w_src, w_srcL, w_srcT, w_srcS, w_srcR, w_rng1, wO_some, wO_none, List.getElem?_cons_zero, List.getElem?_cons_succ, List.set_cons_zero, List.set_cons_succ, fin_v, fin_lF, fin_lT]
    exact ⟨by simp, none, none, none, none, none, none, rfl, [.lst []], rfl, rfl⟩
  rintro Γ' μ' ⟨x2, x3, x4, x5, x6, x7, rfl, hO⟩
  have haw : ∀ i (h : i < as.length), as[i].w.length ≤ 4 * (wl n + 1) := fun i h => by
    obtain ⟨d, _, ds, is, _, _, h4, hd, e⟩ := hR.2.2.mem' (List.getElem_mem h)
    rw [e]
    exact bAt_w (fun d a => w_R n d a) hd h4
  refine q_seq (fun Γ' μ' => ∃ x2 x3 x4 x5 x6 x7, Γ' = [some (.lst bs), some (.ref (μ.length + 0)), x2, x3, x4, x5, x6, x7] ∧ Own μ μ' 0 (psS (as.map (·.w)))) ?_ ?_
  · rw [s_for, w_src]
    simp only [w_var, List.getElem?_cons_zero, wO_some, w_srcL]
    refine s_fix (fun i Γ' μ' => ∃ x2 x3 x4 x5 x6 x7, Γ' = [some (.lst bs), some (.ref (μ.length + 0)), x2, x3, x4, x5, x6, x7] ∧ Own μ μ' 0 (psS ((as.take i).map (·.w)))) ⟨x2, x3, x4, x5, x6, x7, rfl, hO⟩ ?_ ?_
    · rintro i d Γ1 μ1 hd ⟨x2, x3, x4, x5, x6, x7, rfl, hO⟩
      have hi : i < as.length := by rw [← hR.2.2.1]; exact (List.getElem?_eq_some_iff.mp hd).1
      have has3 : as.length ≤ 3 := by rw [← hR.2.2.1]; exact hR.2.1
      obtain ⟨ds, is, rfl, hne, hd4, hds, ha⟩ := hR.2.2.2 i d as[i] hd (List.getElem?_eq_getElem hi)
      have his4 : is.length ≤ 4 := by rw [← hds.1]; exact hd4
      simp only [s_set, List.set_cons_succ, List.set_cons_zero]
      refine q_seq (fun Γ' μ' => ∃ c x4 x5 x6 x7, Γ' = [some (.lst bs), some (.ref (μ.length + 0)), some (.lst ds), some (.ref (μ.length + c)), x4, x5, x6, x7] ∧ Own μ μ' 0 (psS ((as.take i).map (·.w))) ∧ Own μ μ' c (psS []) ∧ c ≠ 0) ?_ ?_
      · simp only [w_bnd, w_ret, w_eC, w_var, w_opS, w_op, w_N, w_CB, w_CS, w_nil, w_cons, w_call, w_if, w_B, w_and, w_or, w_not, w_vAnd, w_vOr, w_vNot, w_neg, w_tup, w_lstF, w_lstC, w_chain, w_fld, w_sl, w_oN, w_oS, w_isLs, w_isSt, w_me, w_meth, w_methS, w_make, w_fmt, w_frz, w_isi, s_seq, s_next, s_set, s_asg, s_expr, s_ret, s_retN, s_if, s_cnt, s_brk, s_no, s_par, s_par3, s_tp, s_gsNil, s_gsCons, s_fld, s_fldT, s_sub, s_aug, s_fldA, s_augS, s_for, w_lc, w_src, w_srcL, w_srcT, w_srcS, w_srcR, w_rng1, wO_some, wO_none, List.getElem?_cons_zero, List.getElem?_cons_succ, List.set_cons_zero, List.set_cons_succ, fin_v, fin_lF, fin_lT]
        obtain ⟨c, hc, hO2⟩ := hO.add (ys := [])
        refine ⟨by simp, c, x4, x5, x6, x7, by rw [hc], hO.more, hO2, ?_⟩
        have := hO.lt
        omega
      rintro Γ2 μ2 ⟨c, x4, x5, x6, x7, rfl, hO, hO2, hc0⟩
      refine q_seq (fun Γ' μ' => ∃ x4 x5 x6 x7, Γ' = [some (.lst bs), some (.ref (μ.length + 0)), some (.lst ds), some (.ref (μ.length + c)), x4, x5, x6, x7] ∧ Own μ μ' 0 (psS ((as.take i).map (·.w))) ∧ Own μ μ' c (psS (is.map (·.w)))) ?_ ?_
      · rw [s_for, w_src]
        simp only [w_var, List.getElem?_cons_zero, List.getElem?_cons_succ, wO_some, w_srcL]
        refine s_fix (fun j Γ' μ' => ∃ x4 x5 x6 x7, Γ' = [some (.lst bs), some (.ref (μ.length + 0)), some (.lst ds), some (.ref (μ.length + c)), x4, x5, x6, x7] ∧ Own μ μ' 0 (psS ((as.take i).map (·.w))) ∧ Own μ μ' c (psS ((is.take j).map (·.w)))) ⟨x4, x5, x6, x7, rfl, hO, by simpa using hO2⟩ ?_ ?_
        · rintro j e Γ3 μ3 he ⟨x4, x5, x6, x7, rfl, hO, hO2⟩
          have hj : j < is.length := by rw [← hds.1]; exact (List.getElem?_eq_some_iff.mp he).1
          obtain ⟨B, hIt, hBB⟩ := hB e is[j] (hds.2 j e is[j] he (List.getElem?_eq_getElem hj))
          refine item_written (g := F_l_written m) hBB hIt hO2 (by simp; omega) fun y4 y5 y6 y7 => ⟨y4, y5, y6, y7, rfl, hO.other hc0, ?_⟩
          rw [take_snoc (List.getElem?_eq_getElem hj), List.map_append]
          exact hO2.set
        · rintro Γ3 μ3 ⟨x4, x5, x6, x7, rfl, hO, hO2⟩
          rw [hds.1, List.take_length] at hO2
          exact ⟨x4, x5, x6, x7, rfl, hO, hO2⟩
      rintro Γ3 μ3 ⟨x4, x5, x6, x7, rfl, hO, hO2⟩
      have hsz : ((is.map (·.w)).map (·.length)).sum + (is.map (·.w)).length * 1 ≤ 4 * (wl n + 1) := wsum (a := [32]) (fun x hx => by
        obtain ⟨a, ha, rfl⟩ := List.mem_map.mp hx
        obtain ⟨d, _, hd⟩ := hds.mem' ha
        exact w_R n d a hd) (by simpa using his4)
      have jn := o_join (μ := μ3) (a := [32]) (x := .ref (μ.length + c)) (ps := is.map (·.w)) (q_ref hO2.at_) (by show _ ≤ 1000000; simp only [List.length_singleton]; omega)
      simp only [w_bnd, w_ret, w_eC, w_var, w_opS, w_op, w_N, w_CB, w_CS, w_nil, w_cons, w_call, w_if, w_B, w_and, w_or, w_not, w_vAnd, w_vOr, w_vNot, w_neg, w_tup, w_lstF, w_lstC, w_chain, w_fld, w_sl, w_oN, w_oS, w_isLs, w_isSt, w_me, w_meth, w_methS, w_make, w_fmt, w_frz, w_isi, s_seq, s_next, s_set, s_asg, s_expr, s_ret, s_retN, s_if, s_cnt, s_brk, s_no, s_par, s_par3, s_tp, s_gsNil, s_gsCons, s_fld, s_fldT, s_sub, s_aug, s_fldA, s_augS, s_for, w_lc, w_src, w_srcL, w_srcT, w_srcS, w_srcR, w_rng1, wO_some, wO_none, List.getElem?_cons_zero, List.getElem?_cons_succ, List.set_cons_zero, List.set_cons_succ, fin_v, fin_lF, fin_lT, l_ref hO.at_, jn, o_append hO.at_ (show (psS ((as.take i).map (·.w))).length < big by rw [psS_len]; simp [big]; omega)]
      refine ⟨_, rfl, some (.lst ds), some (.ref (μ.length + c)), x4, x5, x6, x7, by first | trivial | rfl, ?_⟩
      have e1 : (as.take (i + 1)).map (·.w) = (as.take i).map (·.w) ++ [TL.joinL [32] (is.map (·.w))] := by
        rw [take_snoc (List.getElem?_eq_getElem hi), List.map_append, ha]
        rfl
      rw [e1, psS_app _ [_]]
      exact hO.set
    · rintro Γ1 μ1 ⟨x2, x3, x4, x5, x6, x7, rfl, hO⟩
      rw [hR.2.2.1, List.take_length] at hO
      exact ⟨x2, x3, x4, x5, x6, x7, rfl, hO⟩
  rintro Γ' μ' ⟨x2, x3, x4, x5, x6, x7, rfl, hO⟩
  have hsz : ((as.map (·.w)).map (·.length)).sum + (as.map (·.w)).length * 3 ≤ 3 * (4 * (wl n + 1) + 3) := wsum (a := [32, 124, 32]) (fun x hx => by
    obtain ⟨a, ha, rfl⟩ := List.mem_map.mp hx
    obtain ⟨i, hi, rfl⟩ := List.mem_iff_getElem.mp ha
    exact haw i hi) (by rw [List.length_map, ← hR.2.2.1]; exact hR.2.1)
  have jn := o_join (μ := μ') (a := [32, 124, 32]) (x := .ref (μ.length + 0)) (ps := as.map (·.w)) (q_ref hO.at_) (by show _ ≤ 1000000; simp only [List.length_cons, List.length_nil]; omega)
  simp only [w_bnd, w_ret, w_eC, w_var, w_opS, w_op, w_N, w_CB, w_CS, w_nil, w_cons, w_call, w_if, w_B, w_and, w_or, w_not, w_vAnd, w_vOr, w_vNot, w_neg, w_tup, w_lstF, w_lstC, w_chain, w_fld, w_sl, w_oN, w_oS, w_isLs, w_isSt, w_me, w_meth, w_methS, w_make, w_fmt, w_frz, w_isi, s_seq, s_next, s_set, s_asg, s_expr, s_ret, s_retN, s_if, s_cnt, s_brk, s_no, s_par, s_par3, s_tp, s_gsNil, s_gsCons, s_fld, s_fldT, s_sub, s_aug, s_fldA, s_augS, s_for, w_lc, w_src, w_srcL, w_srcT, w_srcS, w_srcR, w_rng1, wO_some, wO_none, List.getElem?_cons_zero, List.getElem?_cons_succ, List.set_cons_zero, List.set_cons_succ, fin_v, fin_lF, fin_lT, jn]
  refine ⟨_, rfl, ?_⟩
  rw [hO.leave (noref_str _)]
  exact hQ
theorem written_all : ∀ m, WrOk m
  | 0 => fun n bs as μ Q h => absurd h (Nat.not_lt_zero _)
  | m + 1 => written_step (written_all m)
end K01

set_option maxRecDepth 100000
set_option maxHeartbeats 1000000
namespace K01
open PySem L2 PyProof.Rows PySem.Spec Ab
def plBody (g : Fn) : SM := (sIf (mB (eN false (gEq false) (eVar 3) (eC (.str [103, 114, 111, 117, 112])))) (sAsg (eN false gAdd (eVar 1) (eCall g (aCons (eVar 4) aNil))) (sSet 1)) (sAsg (eN false gAdd (eVar 1) (eIf (mB (eN false (gEq false) (eVar 3) (eC (.str [116, 101, 120, 116])))) (eCB false gLen (aCons (eVar 4) aNil)) (eC (.int 1)))) (sSet 1)))
theorem item_places {g : Fn} {B : List D → List At → Prop} (hB : ∀ bs as, B bs as → ∀ μ Q, Q (.int (cB as : Int)) μ → wF g [.lst bs] μ Q) {d : D} {a : At} (hI : ItP B d a) {μ : Sto} {n : Nat} {x0 x2 x3 x4 x5 : Option D} {K : KS}
    (hK : ∀ y3 y4 y5, K.n [x0, some (.int ((n + a.c : Nat) : Int)), x2, y3, y4, y5] μ) :
    wS (gTp 3 (gsCons (sSet 3) (gsCons (sSet 4) (gsCons (sSet 5) gsNil))) d) [x0, some (.int (n : Int)), x2, x3, x4, x5] μ { K with n := fun Γ2 μ2 => wS (plBody g) Γ2 μ2 K } := by
  obtain ⟨s, hs, h⟩ := hI
  rcases h with ⟨l, _, hl6, _, rfl, rfl⟩ | ⟨l, _, hl8, _, _, rfl, rfl⟩ | ⟨bs, as, hb, rfl, rfl⟩
  · rw [s_tp]
    refine ⟨_, rfl, rfl, ?_⟩
    have e0 : gEq false sText (.str [103, 114, 111, 117, 112]) μ = some (.v (.bl false)) := rfl
    have e1 : gEq false sText (.str [116, 101, 120, 116]) μ = some (.v (.bl true)) := rfl
    unfold plBody
    simp only [w_bnd, w_ret, w_eC, w_var, w_opS, w_op, w_N, w_CB, w_CS, w_nil, w_cons, w_call, w_if, w_B, w_and, w_or, w_not, w_vAnd, w_vOr, w_vNot, w_neg, w_tup, w_lstF, w_lstC, w_chain, w_fld, w_sl, w_oN, w_oS, w_isLs, w_isSt, w_me, w_meth, w_methS, w_make, w_fmt, w_frz, w_isi, s_seq, s_next, s_set, s_asg, s_expr, s_ret, s_retN, s_if, s_cnt, s_brk, s_no, s_par, s_par3, s_tp, s_gsNil, s_gsCons, s_fld, s_fldT, s_sub, s_aug, s_fldA, s_augS, s_for, w_lc, w_src, w_srcL, w_srcT, w_srcS, w_srcR, w_rng1, wO_some, wO_none, List.getElem?_cons_zero, List.getElem?_cons_succ, List.set_cons_zero, List.set_cons_succ, fin_v, fin_lF, fin_lT, e0]
    refine ⟨_, rfl, ?_⟩
    simp only [Bool.false_eq_true, if_false, e1, wO_some, fin_v]
    refine ⟨_, rfl, ?_⟩
    simp only [if_true, o_lenS, wO_some, fin_v, o_add]
    have := hK (some sText) (some (.str l)) (some (.str s))
    rwa [Int.natCast_add] at this
  · rw [s_tp]
    refine ⟨_, rfl, rfl, ?_⟩
    have e0 : gEq false sSetW (.str [103, 114, 111, 117, 112]) μ = some (.v (.bl false)) := rfl
    have e1 : gEq false sSetW (.str [116, 101, 120, 116]) μ = some (.v (.bl false)) := rfl
    unfold plBody
    simp only [w_bnd, w_ret, w_eC, w_var, w_opS, w_op, w_N, w_CB, w_CS, w_nil, w_cons, w_call, w_if, w_B, w_and, w_or, w_not, w_vAnd, w_vOr, w_vNot, w_neg, w_tup, w_lstF, w_lstC, w_chain, w_fld, w_sl, w_oN, w_oS, w_isLs, w_isSt, w_me, w_meth, w_methS, w_make, w_fmt, w_frz, w_isi, s_seq, s_next, s_set, s_asg, s_expr, s_ret, s_retN, s_if, s_cnt, s_brk, s_no, s_par, s_par3, s_tp, s_gsNil, s_gsCons, s_fld, s_fldT, s_sub, s_aug, s_fldA, s_augS, s_for, w_lc, w_src, w_srcL, w_srcT, w_srcS, w_srcR, w_rng1, wO_some, wO_none, List.getElem?_cons_zero, List.getElem?_cons_succ, List.set_cons_zero, List.set_cons_succ, fin_v, fin_lF, fin_lT, e0]
    refine ⟨_, rfl, ?_⟩
    simp only [Bool.false_eq_true, if_false, e1, wO_some, fin_v]
    refine ⟨_, rfl, ?_⟩
    simp only [Bool.false_eq_true, if_false, wO_some, fin_v, o_add]
    have := hK (some sSetW) (some (.str l)) (some (.str s))
    rwa [Int.natCast_add] at this
  · have hcall := hB bs as hb
    rw [s_tp]
    refine ⟨_, rfl, rfl, ?_⟩
    have e0 : gEq false sGroup (.str [103, 114, 111, 117, 112]) μ = some (.v (.bl true)) := rfl
    unfold plBody
    simp only [w_bnd, w_ret, w_eC, w_var, w_opS, w_op, w_N, w_CB, w_CS, w_nil, w_cons, w_call, w_if, w_B, w_and, w_or, w_not, w_vAnd, w_vOr, w_vNot, w_neg, w_tup, w_lstF, w_lstC, w_chain, w_fld, w_sl, w_oN, w_oS, w_isLs, w_isSt, w_me, w_meth, w_methS, w_make, w_fmt, w_frz, w_isi, s_seq, s_next, s_set, s_asg, s_expr, s_ret, s_retN, s_if, s_cnt, s_brk, s_no, s_par, s_par3, s_tp, s_gsNil, s_gsCons, s_fld, s_fldT, s_sub, s_aug, s_fldA, s_augS, s_for, w_lc, w_src, w_srcL, w_srcT, w_srcS, w_srcR, w_rng1, wO_some, wO_none, List.getElem?_cons_zero, List.getElem?_cons_succ, List.set_cons_zero, List.set_cons_succ, fin_v, fin_lF, fin_lT, e0]
    refine ⟨_, rfl, ?_⟩
    simp only [if_true]
    refine hcall _ _ ?_
    simp only [wO_some, fin_v, o_add]
    have := hK (some sGroup) (some (.lst bs)) (some (.str s))
    rwa [Int.natCast_add] at this
def PlOk (m : Nat) : Prop := ∀ n bs as μ Q, n < m → BrsP (ItR n) bs as → Q (.int (cB as : Int)) μ → wF (F_l_places m) [.lst bs] μ Q
theorem places_step {m : Nat} (hrec : PlOk m) : PlOk (m + 1) := by
  intro n bs as μ Q hnm hR hQ
  have hB : ∀ d a, ItR n d a → ∃ B : List D → List At → Prop, ItP B d a ∧ ∀ bs as, B bs as → ∀ μ Q, Q (.int (cB as : Int)) μ → wF (F_l_places m) [.lst bs] μ Q := by
    intro d a h
    cases n with
    | zero => exact ⟨_, h, fun _ _ h => h.elim⟩
    | succ n => exact ⟨_, h, fun bs as hb μ Q hq => hrec n bs as μ Q (by omega) hb hq⟩
  show wF (body 6 1 (m_l_places (F_l_places m))) _ μ Q
  rw [f_body]
  refine ⟨rfl, ?_⟩
  show wS _ [some (.lst bs), none, none, none, none, none] μ _
  unfold m_l_places
  refine q_seq (fun Γ' μ' => Γ' = [some (.lst bs), some (.int ((0 : Nat) : Int)), none, none, none, none] ∧ μ' = μ) ?_ ?_
  · simp only [w_bnd, w_ret, w_eC, w_var, w_opS, w_op, w_N, w_CB, w_CS, w_nil, w_cons, w_call, w_if, w_B, w_and, w_or, w_not, w_vAnd, w_vOr, w_vNot, w_neg, w_tup, w_lstF, w_lstC, w_chain, w_fld, w_sl, w_oN, w_oS, w_isLs, w_isSt, w_me, w_meth, w_methS, w_make, w_fmt, w_frz, w_isi, s_seq, s_next, s_set, s_asg, s_expr, s_ret, s_retN, s_if, s_cnt, s_brk, s_no, s_par, s_par3, s_tp, s_gsNil, s_gsCons, s_fld, s_fldT, s_sub, s_aug, s_fldA, s_augS, s_for, w_lc, w_src, w_srcL, w_srcT, w_srcS, w_srcR, w_rng1, wO_some, wO_none, List.getElem?_cons_zero, List.getElem?_cons_succ, List.set_cons_zero, List.set_cons_succ, fin_v, fin_lF, fin_lT]
    exact ⟨by first | trivial | rfl, by first | trivial | rfl⟩
  rintro Γ' μ' ⟨rfl, rfl⟩
  refine q_seq (fun Γ' μ1 => ∃ x2 x3 x4 x5, Γ' = [some (.lst bs), some (.int (cB as : Int)), x2, x3, x4, x5] ∧ μ1 = μ') ?_ ?_
  · rw [s_for, w_src]
    simp only [w_var, List.getElem?_cons_zero, wO_some, w_srcL]
    refine s_fix (fun i Γ' μ1 => ∃ x2 x3 x4 x5, Γ' = [some (.lst bs), some (.int (cB (as.take i) : Int)), x2, x3, x4, x5] ∧ μ1 = μ') ⟨none, none, none, none, rfl, rfl⟩ ?_ ?_
    · rintro i d Γ1 μ1 hd ⟨x2, x3, x4, x5, rfl, rfl⟩
      have hi : i < as.length := by rw [← hR.2.2.1]; exact (List.getElem?_eq_some_iff.mp hd).1
      obtain ⟨ds, is, rfl, hne, hd4, hds, ha⟩ := hR.2.2.2 i d as[i] hd (List.getElem?_eq_getElem hi)
      simp only [s_set, List.set_cons_succ, List.set_cons_zero]
      rw [s_for, w_src]
      simp only [w_var, List.getElem?_cons_zero, List.getElem?_cons_succ, wO_some, w_srcL]
      refine s_fix (fun j Γ' μ2 => ∃ x3 x4 x5, Γ' = [some (.lst bs), some (.int ((cB (as.take i) + ((is.take j).map (·.c)).sum : Nat) : Int)), some (.lst ds), x3, x4, x5] ∧ μ2 = μ1) ⟨x3, x4, x5, by simp, rfl⟩ ?_ ?_
      · rintro j e Γ2 μ2 he ⟨x3, x4, x5, rfl, rfl⟩
        have hj : j < is.length := by rw [← hds.1]; exact (List.getElem?_eq_some_iff.mp he).1
        obtain ⟨B, hIt, hBB⟩ := hB e is[j] (hds.2 j e is[j] he (List.getElem?_eq_getElem hj))
        refine item_places (g := F_l_places m) hBB hIt fun y3 y4 y5 => ⟨y3, y4, y5, ?_, rfl⟩
        rw [take_snoc (List.getElem?_eq_getElem hj), sum_snoc, Nat.add_assoc]
      · rintro Γ2 μ2 ⟨x3, x4, x5, rfl, rfl⟩
        refine ⟨some (.lst ds), x3, x4, x5, ?_, rfl⟩
        rw [hds.1, List.take_length, take_snoc (List.getElem?_eq_getElem hi), ha]
        have : cB (as.take i ++ [bAt is]) = cB (as.take i) + (is.map (·.c)).sum := by simp [cB, bAt]
        rw [this]
    · rintro Γ1 μ1 ⟨x2, x3, x4, x5, rfl, rfl⟩
      rw [hR.2.2.1, List.take_length]
      exact ⟨x2, x3, x4, x5, rfl, rfl⟩
  rintro Γ' μ1 ⟨x2, x3, x4, x5, rfl, rfl⟩
  simp only [w_bnd, w_ret, w_eC, w_var, w_opS, w_op, w_N, w_CB, w_CS, w_nil, w_cons, w_call, w_if, w_B, w_and, w_or, w_not, w_vAnd, w_vOr, w_vNot, w_neg, w_tup, w_lstF, w_lstC, w_chain, w_fld, w_sl, w_oN, w_oS, w_isLs, w_isSt, w_me, w_meth, w_methS, w_make, w_fmt, w_frz, w_isi, s_seq, s_next, s_set, s_asg, s_expr, s_ret, s_retN, s_if, s_cnt, s_brk, s_no, s_par, s_par3, s_tp, s_gsNil, s_gsCons, s_fld, s_fldT, s_sub, s_aug, s_fldA, s_augS, s_for, w_lc, w_src, w_srcL, w_srcT, w_srcS, w_srcR, w_rng1, wO_some, wO_none, List.getElem?_cons_zero, List.getElem?_cons_succ, List.set_cons_zero, List.set_cons_succ, fin_v, fin_lF, fin_lT]
  rw [leave_same rfl]
  exact hQ
theorem places_all : ∀ m, PlOk m
  | 0 => fun n bs as μ Q h => absurd h (Nat.not_lt_zero _)
  | m + 1 => places_step (places_all m)
end K01

set_option maxRecDepth 100000
set_option maxHeartbeats 1000000
namespace K01
open PySem L2 PyProof.Rows PySem.Spec Ab
/-! ### a comprehension that changes nothing -/
theorem lc_map {ds : List D} {c : CT} {te : M D} {Γ0 : Env'} {μ : Sto} {Q : List D × Sto → Prop} (f : D → D) (h : ∀ d ∈ ds, ∃ Γ1, c.set d Γ0 = some Γ1 ∧ ∀ Q' : D → Sto → Prop, Q' (f d) μ → wM te Γ1 μ Q') (hl : ds.length ≤ big) (hQ : Q (ds.map f, μ)) :
    wO (lcLoop (.fix ds) c mYes te Γ0 (Src.fuel μ (.fix ds)) 0 [] μ) Q := by
  refine lc_fix (fun i acc μ1 => acc = (ds.take i).map f ∧ μ1 = μ) ?_ ?_ _ 0 [] μ (by simp [Src.fuel]) (Nat.zero_le _) ⟨rfl, rfl⟩
  · rintro i d acc μ1 hd ⟨rfl, rfl⟩
    obtain ⟨Γ1, h1, h2⟩ := h d (List.mem_of_getElem? hd)
    refine ⟨Γ1, h1, ?_⟩
    show wM (ret true) Γ1 μ1 _
    rw [w_ret, if_pos rfl]
    refine h2 _ ⟨?_, ?_, rfl⟩
    · have := (List.getElem?_eq_some_iff.mp hd).1
      rw [List.length_map, List.length_take]
      omega
    · rw [take_snoc hd, List.map_append]; rfl
  · rintro acc μ1 ⟨rfl, rfl⟩
    rw [List.take_length]
    exact hQ
def allL : List Nat := [97, 98, 99, 100, 101, 102, 103, 104, 105, 106, 107, 108, 109, 110, 111, 112, 113, 114, 115, 116, 117, 118, 119, 120, 121, 122, 65, 66, 67, 68, 69, 70, 71, 72, 73, 74, 75, 76, 77, 78, 79, 80, 81, 82, 83, 84, 85, 86, 87, 88, 89, 90, 48, 49, 50, 51, 52, 53, 54, 55, 56, 57, 33, 35, 36, 38, 39, 40, 41, 42, 43, 44, 45, 46, 47, 58, 59, 60, 61, 62, 63, 64, 94, 95, 123, 124, 125, 126]
def Ltr (l : List Nat) : Prop := ∀ c ∈ l, c ∈ allL
theorem Lt.ltr {l : List Nat} (h : Lt l) : Ltr l := by
  have : ∀ c ∈ abc, c ∈ allL := by decide
  exact fun c hc => this c (h c hc)
theorem o_inS {c : Nat} {l : List Nat} {μ : Sto} {n : Bool} : gIn n (.str [c]) (.str l) μ = some (.v (.bl (if n then !decide (c ∈ l) else decide (c ∈ l)))) := rfl
theorem bls_map {α : Type} (f : α → Bool) : ∀ xs : List α, asBls (xs.map fun x => .bl (f x)) = some (xs.map f)
  | [] => rfl
  | x :: xs => by
    show (asBls (xs.map fun x => .bl (f x))).map (f x :: ·) = _
    rw [bls_map f xs]; rfl
theorem o_allB {μ : Sto} {bs : List Bool} : gAll [.lst (bs.map .bl)] μ = some (.v (.bl (bs.all id))) := by
  have := bls_map id bs
  simp only [List.map_id, id] at this
  simp [gAll, gBls, asL, this]
theorem o_anyB {μ : Sto} {bs : List Bool} : gAny [.lst (bs.map .bl)] μ = some (.v (.bl (bs.any id))) := by
  have := bls_map id bs
  simp only [List.map_id, id] at this
  simp [gAny, gBls, asL, this]
theorem is_letters_ok {μ : Sto} {l : List Nat} {Q : D → Sto → Prop} (hl : l.length ≤ 1000000) (hQ : Q (.bl (l.all fun c => decide (c ∈ allL))) μ) : wF F_is_letters [.str l] μ Q := by
  unfold F_is_letters
  rw [f_body]
  refine ⟨rfl, ?_⟩
  show wS _ [some (.str l), none] μ _
  unfold m_is_letters
  simp only [w_bnd, w_ret, w_eC, w_var, w_opS, w_op, w_N, w_CB, w_CS, w_nil, w_cons, w_call, w_if, w_B, w_and, w_or, w_not, w_vAnd, w_vOr, w_vNot, w_neg, w_tup, w_lstF, w_lstC, w_chain, w_fld, w_sl, w_oN, w_oS, w_isLs, w_isSt, w_me, w_meth, w_methS, w_make, w_fmt, w_frz, w_isi, s_seq, s_next, s_set, s_asg, s_expr, s_ret, s_retN, s_if, s_cnt, s_brk, s_no, s_par, s_par3, s_tp, s_gsNil, s_gsCons, s_fld, s_fldT, s_sub, s_aug, s_fldA, s_augS, s_for, w_lc, w_src, w_srcL, w_srcT, w_srcS, w_srcR, w_rng1, wO_some, wO_none, List.getElem?_cons_zero, List.getElem?_cons_succ, List.set_cons_zero, List.set_cons_succ, fin_v, fin_lF, fin_lT]
  refine lc_map (fun d => match d with | .str [c] => .bl (decide (c ∈ allL)) | _ => .non) (fun d hd => ?_) (by simpa using hl) ?_
  · obtain ⟨c, hc, rfl⟩ := List.mem_map.mp hd
    refine ⟨_, rfl, fun Q' hq => ?_⟩
    show wM _ [some (.str l), some (.str [c])] μ Q'
    simp only [w_bnd, w_ret, w_eC, w_var, w_opS, w_op, w_N, w_CB, w_CS, w_nil, w_cons, w_call, w_if, w_B, w_and, w_or, w_not, w_vAnd, w_vOr, w_vNot, w_neg, w_tup, w_lstF, w_lstC, w_chain, w_fld, w_sl, w_oN, w_oS, w_isLs, w_isSt, w_me, w_meth, w_methS, w_make, w_fmt, w_frz, w_isi, s_seq, s_next, s_set, s_asg, s_expr, s_ret, s_retN, s_if, s_cnt, s_brk, s_no, s_par, s_par3, s_tp, s_gsNil, s_gsCons, s_fld, s_fldT, s_sub, s_aug, s_fldA, s_augS, s_for, w_lc, w_src, w_srcL, w_srcT, w_srcS, w_srcR, w_rng1, wO_some, wO_none, List.getElem?_cons_zero, List.getElem?_cons_succ, List.set_cons_zero, List.set_cons_succ, fin_v, fin_lF, fin_lT, o_inS]
    exact hq
  · dsimp only
    rw [List.map_map]
    have e : (l.map ((fun d => match d with | D.str [c] => D.bl (decide (c ∈ allL)) | _ => D.non) ∘ fun c => D.str [c])) = ((l.map fun c => decide (c ∈ allL)).map D.bl) := by
      rw [List.map_map]; rfl
    rw [e, o_allB, wO_some, fin_v, leave_same rfl, List.all_map]
    exact hQ
theorem chain_le {μ : Sto} {Γ : Env'} {i j k : Int} {a b c : M D} {Q : D → Sto → Prop} (ha : wM a Γ μ fun d μ' => d = .int i ∧ μ' = μ) (hb : wM b Γ μ fun d μ' => d = .int j ∧ μ' = μ) (hc : wM c Γ μ fun d μ' => d = .int k ∧ μ' = μ) (hQ : Q (.bl (decide (i ≤ j) && decide (j ≤ k))) μ) :
    wM (eChain (fun x y μ => (gLe x y μ).map (fin false μ)) (fun x y μ => (gLe x y μ).map (fin false μ)) a b c) Γ μ Q := by
  rw [w_chain]
  refine ha.imp fun x μ1 ⟨e1, e2⟩ => ?_
  subst e1; subst e2
  refine hb.imp fun x μ1 ⟨e1, e2⟩ => ?_
  subst e1; subst e2
  rw [o_le, Option.map_some, wO_some, fin_v]
  by_cases h : i ≤ j
  · rw [decide_eq_true h] at hQ ⊢
    show wM (bnd c _) Γ _ Q
    rw [w_bnd]
    refine hc.imp fun x μ1 ⟨e1, e2⟩ => ?_
    subst e1; subst e2
    rw [w_opS]; dsimp only; rw [o_le, Option.map_some, wO_some, fin_v]
    simpa using hQ
  · rw [decide_eq_false h] at hQ ⊢
    exact hQ
def okQ (l : List Nat) : Bool := decide (1 ≤ l.length) && decide (l.length ≤ 6) && l.all fun c => decide (c ∈ allL)
theorem is_quoted_ok {μ : Sto} {l : List Nat} {Q : D → Sto → Prop} (hl : l.length ≤ 1000000) (hQ : Q (.bl (okQ l)) μ) : wF F_is_quoted [.str l] μ Q := by
  unfold F_is_quoted
  rw [f_body]
  refine ⟨rfl, ?_⟩
  show wS _ [some (.str l)] μ _
  unfold m_is_quoted
  rw [s_ret, w_vAnd]
  refine chain_le (i := 1) (j := l.length) (k := 6) ⟨rfl, rfl⟩ ⟨rfl, rfl⟩ ⟨rfl, rfl⟩ ⟨_, rfl, ?_⟩
  have e : (decide ((1 : Int) ≤ (l.length : Int)) && decide ((l.length : Int) ≤ 6)) = (decide (1 ≤ l.length) && decide (l.length ≤ 6)) := by
    congr 1 <;> refine decide_eq_decide.mpr ?_ <;> omega
  rw [e]
  unfold okQ at hQ
  cases hb : (decide (1 ≤ l.length) && decide (l.length ≤ 6)) with
  | false =>
    rw [hb] at hQ
    simp only [Bool.false_eq_true, if_false]
    rw [leave_same rfl]
    exact hQ
  | true =>
    rw [hb] at hQ
    simp only [if_true, w_bnd, w_ret, w_eC, w_var, w_opS, w_op, w_N, w_CB, w_CS, w_nil, w_cons, w_call, w_if, w_B, w_and, w_or, w_not, w_vAnd, w_vOr, w_vNot, w_neg, w_tup, w_lstF, w_lstC, w_chain, w_fld, w_sl, w_oN, w_oS, w_isLs, w_isSt, w_me, w_meth, w_methS, w_make, w_fmt, w_frz, w_isi, s_seq, s_next, s_set, s_asg, s_expr, s_ret, s_retN, s_if, s_cnt, s_brk, s_no, s_par, s_par3, s_tp, s_gsNil, s_gsCons, s_fld, s_fldT, s_sub, s_aug, s_fldA, s_augS, s_for, w_lc, w_src, w_srcL, w_srcT, w_srcS, w_srcR, w_rng1, wO_some, wO_none, List.getElem?_cons_zero, List.getElem?_cons_succ, List.set_cons_zero, List.set_cons_succ, fin_v, fin_lF, fin_lT]
    refine is_letters_ok hl ?_
    rw [leave_same rfl]
    simpa using hQ
end K01

set_option maxRecDepth 100000
set_option maxHeartbeats 1000000
namespace K01
open PySem L2 PyProof.Rows PySem.Spec Ab
/-! ### brackets -/
theorem dedup_go : ∀ (l acc : List Nat), (∀ c ∈ acc, c ∉ l) → l.Nodup → l.foldl (fun acc c => if c ∈ acc then acc else acc ++ [c]) acc = acc ++ l
  | [], acc, _, _ => by simp
  | c :: l, acc, h, hn => by
    have h1 : c ∉ acc := fun hc => h c hc (by simp)
    rw [List.foldl_cons, if_neg h1, dedup_go l (acc ++ [c]) (fun d hd => ?_) (List.nodup_cons.mp hn).2]
    · simp
    · rcases List.mem_append.mp hd with hd | hd
      · exact fun hl => h d hd (by simp [hl])
      · simp at hd; subst hd; exact (List.nodup_cons.mp hn).1
theorem dedup_self {l : List Nat} (h : l.Nodup) : dedup l = l := by
  unfold dedup
  rw [dedup_go l [] (by simp) h]; simp
theorem dedup_inv : ∀ (l acc : List Nat), acc.Nodup → (l.foldl (fun acc c => if c ∈ acc then acc else acc ++ [c]) acc).Nodup
  | [], acc, h => h
  | c :: l, acc, h => by
    rw [List.foldl_cons]
    split
    · exact dedup_inv l acc h
    · rename_i hc
      exact dedup_inv l _ (by
        rw [List.nodup_append]
        refine ⟨h, by simp, fun a ha b hb e => ?_⟩
        simp at hb; subst hb; subst e; exact hc ha)
theorem dedup_nodup (l : List Nat) : (dedup l).Nodup := dedup_inv l [] (by simp)
theorem asc_nodup {l : List Nat} (h : Asc l) : l.Nodup := List.Pairwise.imp (fun h => Nat.ne_of_lt h) h
/-- two ascending rows with the same members are the same -/
theorem asc_eq {a b : List Nat} (ha : Asc a) (hb : Asc b) (hp : a.Perm b) : a = b := List.Perm.eq_of_pairwise (le := (· < ·)) (fun x y _ _ h1 h2 => absurd h1 (by omega)) ha hb hp
theorem sort_asc {l : List Nat} (h : Asc l) : sortL ((dedup l).map fun c => [c]) = l.map fun c => [c] := by
  rw [dedup_self (asc_nodup h)]
  obtain ⟨m, h1, h2, h3⟩ := sort_sgs l (asc_nodup h)
  rw [h1, asc_eq h3 h h2]
theorem asc_of_sort {l : List Nat} (h : l.map (fun c => [c]) = sortL ((dedup l).map fun c => [c])) : Asc l := by
  obtain ⟨m, h1, h2, h3⟩ := sort_sgs (dedup l) (dedup_nodup l)
  rw [h1] at h
  have : l = m := by
    have := congrArg (List.map fun x : List Nat => x.headD 0) h
    simpa [List.map_map, Function.comp_def] using this
  rw [this]; exact h3
instance (l : List Nat) : Decidable (Asc l) := inferInstanceAs (Decidable (l.Pairwise (· < ·)))
def okB (l : List Nat) : Bool := decide (1 ≤ l.length) && decide (l.length ≤ 8) && ((l.all fun c => decide (c ∈ allL)) && decide (Asc l))
theorem psP : ∀ ps : List (List Nat), toP0s (psS ps) = some (ps.map fun l => .str (mkS l))
  | [] => rfl
  | p :: ps => by
    show (match toP0 (.str p), toP0s (psS ps) with | some a, some b => some (a :: b) | _, _ => none) = _
    rw [psP ps]; rfl
theorem eqv_strs : ∀ ps qs : List (List Nat), PyData.eqvAll (ps.map fun l => .str (mkS l)) (qs.map fun l => .str (mkS l)) = decide (ps = qs)
  | [], [] => rfl
  | [], _ :: _ => rfl
  | _ :: _, [] => rfl
  | p :: ps, q :: qs => by
    show (PyData.eqv (.str (mkS p)) (.str (mkS q)) && PyData.eqvAll (ps.map fun l => .str (mkS l)) (qs.map fun l => .str (mkS l))) = _
    rw [eqv_strs ps qs]
    have e : PyData.eqv (.str (mkS p)) (.str (mkS q)) = decide (p = q) := by
      show decide (mkS p = mkS q) = _
      exact decide_eq_decide.mpr mkS_inj
    rw [e, Bool.eq_iff_iff]
    simp
theorem shs_strs {ps : List (List Nat)} (h : ∀ p ∈ ps, Low p) : Shs 0 (psS ps) := shs_all fun d hd => by
  obtain ⟨p, hp, rfl⟩ := List.mem_map.mp hd
  exact sh_str (h p hp)
theorem shaped_strs {ps : List (List Nat)} (h : ∀ p ∈ ps, Low p) : SeqAt.shaped (.list (ps.map fun l => .str (mkS l))) = true := by
  obtain ⟨xs, g1, g2, g3, g4⟩ := shs_strs h
  rw [psP] at g1
  cases g1
  unfold SeqAt.shaped
  have hd : (PyData.list (ps.map fun l => .str (mkS l))).depth ≤ 64 := by
    show PyData.depthAll _ + 1 ≤ 64
    omega
  rw [decide_eq_true hd]
  exact (Bool.and_true _).trans g2
theorem eq_strs {μ : Sto} {x y : D} {ps qs : List (List Nat)} {n : Bool} (hx : toP μ x = some (.list (ps.map fun l => .str (mkS l)))) (hy : toP μ y = some (.list (qs.map fun l => .str (mkS l)))) (h1 : ∀ p ∈ ps, Low p) (h2 : ∀ p ∈ qs, Low p) : gEq n x y μ = some (.v (.bl (if n then !decide (ps = qs) else decide (ps = qs)))) := by
  have s1 := shaped_strs h1
  have s2 := shaped_strs h2
  have e0 : scalD x y = none := by
    cases x <;> simp [toP, toP0] at hx <;> cases y <;> simp [toP, toP0] at hy <;> rfl
  have e1 : PyData.eqv (.list (ps.map fun l => .str (mkS l))) (.list (qs.map fun l => .str (mkS l))) = decide (ps = qs) := eqv_strs ps qs
  simp only [gEq, e0, hx, hy, s1, s2, and_self, if_true, e1]
theorem toP_psS {μ : Sto} {ps : List (List Nat)} : toP μ (.lst (psS ps)) = some (.list (ps.map fun l => .str (mkS l))) := by
  show (toP0s (psS ps)).map PyData.list = _
  rw [psP]; rfl
theorem toP_cell {μ : Sto} {k : Nat} {ps : List (List Nat)} (h : μ[k]? = some (.lst (psS ps))) : toP μ (.ref k) = some (.list (ps.map fun l => .str (mkS l))) := by
  simp only [toP, h]
  rw [psP]; rfl
theorem w_srt {m : M D} {Γ : Env'} {μ : Sto} {Q : D → Sto → Prop} : wM (eSrt m) Γ μ Q = wM m Γ μ fun d μ1 => ∃ l, d = .str l ∧ l.length < 1000 ∧ Q (.lst (psS (sortL ((dedup l).map fun c => [c])))) μ1 := by
  unfold eSrt
  rw [w_bnd]
  congr 1; funext d μ1
  cases d with
  | str l =>
    unfold wM
    dsimp only
    by_cases h : l.length < 1000
    · rw [if_pos h]
      simp [psS, h]
    · rw [if_neg h]; simp [h]
  | _ => simp [wM]
theorem low_allL : ∀ c ∈ allL, c < 128 := by decide
theorem Ltr.low {l : List Nat} (h : Ltr l) : Low l := fun c hc => low_allL c (h c hc)
theorem is_bracketed_ok {μ : Sto} {l : List Nat} {Q : D → Sto → Prop} (hl : l.length ≤ 1000000) (hQ : Q (.bl (okB l)) μ) : wF F_is_bracketed [.str l] μ Q := by
  unfold F_is_bracketed
  rw [f_body]
  refine ⟨rfl, ?_⟩
  show wS _ [some (.str l)] μ _
  unfold m_is_bracketed
  rw [s_ret, w_vAnd]
  refine chain_le (i := 1) (j := l.length) (k := 8) ⟨rfl, rfl⟩ ⟨rfl, rfl⟩ ⟨rfl, rfl⟩ ⟨_, rfl, ?_⟩
  have e : (decide ((1 : Int) ≤ (l.length : Int)) && decide ((l.length : Int) ≤ 8)) = (decide (1 ≤ l.length) && decide (l.length ≤ 8)) := by
    congr 1 <;> refine decide_eq_decide.mpr ?_ <;> omega
  rw [e]
  unfold okB at hQ
  cases hb : (decide (1 ≤ l.length) && decide (l.length ≤ 8)) with
  | false =>
    rw [hb] at hQ
    simp only [Bool.false_eq_true, if_false]
    rw [leave_same rfl]
    exact hQ
  | true =>
    rw [hb] at hQ
    have h8 : l.length ≤ 8 := by
      simp at hb; exact hb.2
    simp only [if_true, w_bnd, w_ret, w_eC, w_var, w_opS, w_op, w_N, w_CB, w_CS, w_nil, w_cons, w_call, w_if, w_B, w_and, w_or, w_not, w_vAnd, w_vOr, w_vNot, w_neg, w_tup, w_lstF, w_lstC, w_chain, w_fld, w_sl, w_oN, w_oS, w_isLs, w_isSt, w_me, w_meth, w_methS, w_make, w_fmt, w_frz, w_isi, s_seq, s_next, s_set, s_asg, s_expr, s_ret, s_retN, s_if, s_cnt, s_brk, s_no, s_par, s_par3, s_tp, s_gsNil, s_gsCons, s_fld, s_fldT, s_sub, s_aug, s_fldA, s_augS, s_for, w_lc, w_src, w_srcL, w_srcT, w_srcS, w_srcR, w_rng1, wO_some, wO_none, List.getElem?_cons_zero, List.getElem?_cons_succ, List.set_cons_zero, List.set_cons_succ, fin_v, fin_lF, fin_lT]
    refine is_letters_ok hl ⟨_, rfl, ?_⟩
    cases hq : (l.all fun c => decide (c ∈ allL)) with
    | false =>
      rw [hq] at hQ
      simp only [Bool.false_eq_true, if_false]
      rw [leave_same rfl]
      exact hQ
    | true =>
      rw [hq] at hQ
      have hlow : Low l := Ltr.low fun c hc => by
        have := List.all_eq_true.mp hq c hc
        exact of_decide_eq_true this
      have g1 : gListS [.str l] μ = some (.l (psS (l.map fun c => [c]))) := rfl
      have hsrt : ∀ p ∈ sortL ((dedup l).map fun c => [c]), Low p := fun p hp => by
        have hp' := (List.mergeSort_perm _ leL).mem_iff.mp hp
        obtain ⟨c, hc, rfl⟩ := List.mem_map.mp hp'
        obtain ⟨m, h1, h2, h3⟩ := sort_sgs (dedup l) (dedup_nodup l)
        have : c ∈ l := by
          have key : ∀ (l acc : List Nat), c ∈ l.foldl (fun acc c => if c ∈ acc then acc else acc ++ [c]) acc → c ∈ acc ∨ c ∈ l := by
            intro l
            induction l with
            | nil => intro acc h; exact .inl h
            | cons d l ih =>
              intro acc h
              rw [List.foldl_cons] at h
              rcases ih _ h with h | h
              · split at h
                · exact .inl h
                · rcases List.mem_append.mp h with h | h
                  · exact .inl h
                  · simp at h; subst h; exact .inr (by simp)
              · exact .inr (by simp [h])
          exact (key l [] hc).elim (fun h => by simp at h) id
        intro d hd
        simp at hd; subst hd
        exact hlow d this
      have e1 := eq_strs (μ := μ) (n := false) toP_psS toP_psS (ps := l.map fun c => [c]) (qs := sortL ((dedup l).map fun c => [c])) (fun p hp => by
        obtain ⟨c, hc, rfl⟩ := List.mem_map.mp hp
        intro d hd; simp at hd; subst hd; exact hlow d hc) hsrt
      simp only [if_true, g1, wO_some, fin_lF, w_srt, w_bnd, w_ret, w_eC, w_var, w_opS, w_op, w_N, w_CB, w_CS, w_nil, w_cons, w_call, w_if, w_B, w_and, w_or, w_not, w_vAnd, w_vOr, w_vNot, w_neg, w_tup, w_lstF, w_lstC, w_chain, w_fld, w_sl, w_oN, w_oS, w_isLs, w_isSt, w_me, w_meth, w_methS, w_make, w_fmt, w_frz, w_isi, s_seq, s_next, s_set, s_asg, s_expr, s_ret, s_retN, s_if, s_cnt, s_brk, s_no, s_par, s_par3, s_tp, s_gsNil, s_gsCons, s_fld, s_fldT, s_sub, s_aug, s_fldA, s_augS, s_for, w_lc, w_src, w_srcL, w_srcT, w_srcS, w_srcR, w_rng1, wO_some, wO_none, List.getElem?_cons_zero, List.getElem?_cons_succ, List.set_cons_zero, List.set_cons_succ, fin_v, fin_lF, fin_lT]
      refine ⟨l, rfl, by omega, ?_⟩
      rw [e1, wO_some, fin_v, leave_same rfl]
      simp only [Bool.false_eq_true, if_false]
      have : decide (l.map (fun c => [c]) = sortL ((dedup l).map fun c => [c])) = decide (Asc l) := decide_eq_decide.mpr ⟨asc_of_sort, fun h => (sort_asc h).symm⟩
      rw [this]
      simpa using hQ
end K01

set_option maxRecDepth 100000
set_option maxHeartbeats 1000000
namespace K01
open PySem L2 PyProof.Rows PySem.Spec Ab
/-! ### pieces of a text -/
def sgnL : List Nat := [40, 41, 124, 42, 43, 63]
def Pc (p : List Nat) : Prop := (∃ c, p = [c] ∧ c ∈ sgnL) ∨ (∃ l, p = 34 :: l ++ [34] ∧ 1 ≤ l.length ∧ l.length ≤ 6 ∧ Ltr l) ∨ (∃ l, p = 91 :: l ++ [93] ∧ 1 ≤ l.length ∧ l.length ≤ 8 ∧ Asc l ∧ Ltr l)
inductive Sp : List (List Nat) → List Nat → Prop
  | nil : Sp [] []
  | sp {ps : List (List Nat)} {t : List Nat} : Sp ps t → Sp ps (32 :: t)
  | pc {p : List Nat} {ps : List (List Nat)} {t : List Nat} : Pc p → Sp ps t → Sp (p :: ps) (p ++ t)
theorem Sp.app {ps qs : List (List Nat)} {t u : List Nat} (h : Sp ps t) (g : Sp qs u) : Sp (ps ++ qs) (t ++ u) := by
  induction h with
  | nil => exact g
  | sp _ ih => exact .sp ih
  | pc hp _ ih =>
    rw [List.append_assoc]
    exact .pc hp ih
theorem Sp.spaces {ps : List (List Nat)} {t : List Nat} (h : Sp ps t) : ∀ n, Sp ps (List.replicate n 32 ++ t)
  | 0 => h
  | n + 1 => by
    rw [List.replicate_succ]
    exact .sp (Sp.spaces h n)
theorem Sp.one {p : List Nat} (h : Pc p) : Sp [p] p := by
  have := Sp.pc h .nil
  simpa using this
theorem Pc.low {p : List Nat} (h : Pc p) : Low p := by
  rcases h with ⟨c, rfl, hc⟩ | ⟨l, rfl, _, _, hl⟩ | ⟨l, rfl, _, _, _, hl⟩
  · intro d hd
    simp at hd; subst hd
    have : ∀ c ∈ sgnL, c < 128 := by decide
    exact this _ hc
  · intro d hd
    simp only [List.cons_append, List.mem_cons, List.mem_append, List.not_mem_nil, or_false] at hd
    rcases hd with rfl | hd | rfl
    · decide
    · exact hl.low d hd
    · decide
  · intro d hd
    simp only [List.cons_append, List.mem_cons, List.mem_append, List.not_mem_nil, or_false] at hd
    rcases hd with rfl | hd | rfl
    · decide
    · exact hl.low d hd
    · decide
theorem Pc.len {p : List Nat} (h : Pc p) : 1 ≤ p.length ∧ p.length ≤ 10 := by
  rcases h with ⟨c, rfl, hc⟩ | ⟨l, rfl, h1, h2, hl⟩ | ⟨l, rfl, h1, h2, _, hl⟩ <;> simp <;> omega
theorem Sp.pcs {ps : List (List Nat)} {t : List Nat} (h : Sp ps t) : ∀ p ∈ ps, Pc p := by
  induction h with
  | nil => intro p hp; simp at hp
  | sp _ ih => exact ih
  | pc hp _ ih =>
    intro q hq
    rcases List.mem_cons.mp hq with rfl | hq
    · exact hp
    · exact ih q hq
theorem cut_from {l : List Nat} {i : Nat} : cutL l (some ((i : Int) + 1)) none = l.drop (i + 1) := by
  unfold cutL
  have e0 : HT.sIx l.length 0 (some ((i : Int) + 1)) = min (i + 1) l.length := by
    show (if (i : Int) + 1 < 0 then ((i : Int) + 1 + (l.length : Int)).toNat else min ((i : Int) + 1).toNat l.length) = _
    rw [if_neg (by omega)]
    have : ((i : Int) + 1).toNat = i + 1 := by omega
    rw [this]
  have e1 : HT.sIx l.length l.length none = l.length := rfl
  rw [e0, e1]
  by_cases h : i + 1 ≤ l.length
  · rw [Nat.min_eq_left h]
    exact List.take_of_length_le (by simp)
  · rw [Nat.min_eq_right (by omega), List.drop_eq_nil_of_le (Nat.le_refl _), List.drop_eq_nil_of_le (by omega)]
    simp
theorem w_dct {l : List (List Nat × List Nat)} {m : M D} {Γ : Env'} {μ : Sto} {Q : D → Sto → Prop} : wM (eDct l m) Γ μ Q = wM m Γ μ fun d μ1 => ∃ c v, d = .str c ∧ l.lookup c = some v ∧ v.length ≤ 1000000 ∧ Q (.str v) μ1 := by
  unfold eDct
  rw [w_bnd]
  congr 1; funext d μ1
  cases d with
  | str c =>
    dsimp only
    cases hk : l.lookup c with
    | none =>
      apply propext
      constructor
      · intro h; exact h.elim
      · rintro ⟨c', v, e, h, _⟩
        cases e
        rw [hk] at h; cases h
    | some v =>
      dsimp only
      by_cases hv : v.length ≤ 1000000
      · rw [if_pos hv]
        apply propext
        constructor
        · intro h; exact ⟨c, v, rfl, hk, hv, h⟩
        · rintro ⟨c', v', e, h, _, q⟩
          cases e
          rw [hk] at h; cases h
          exact q
      · rw [if_neg hv]
        apply propext
        constructor
        · intro h; exact h.elim
        · rintro ⟨c', v', e, h, h2, q⟩
          cases e
          rw [hk] at h; cases h
          exact absurd h2 hv
  | _ => simp [wM]
theorem nin2 {μ : Sto} {c : Nat} : gIn true (.str [c]) (.tup [.str [34], .str [91]]) μ = some (.v (.bl (!(decide (34 = c) || decide (91 = c))))) := by
  have : gInQ true (.str [c]) (.tup [.str [34], .str [91]]) μ = some (.v (.bl (!(decide (34 = c) || decide (91 = c))))) := by
    simp [gInQ, asSeq, flatD, eqF]
  simp only [gIn, this]
theorem part_at {e : Nat} {l r : List Nat} (h : e ∉ l) : partL e (l ++ e :: r) = (l, [e], r) := by
  unfold partL
  rw [if_pos (by simp)]
  have h1 : (l ++ e :: r).takeWhile (· ≠ e) = l := by
    rw [List.takeWhile_append_of_pos (fun x hx => by simpa using fun q : x = e => h (q ▸ hx))]
    simp
  have h2 : (l ++ e :: r).dropWhile (· ≠ e) = e :: r := by
    rw [List.dropWhile_append_of_pos (fun x hx => by simpa using fun q : x = e => h (q ▸ hx))]
    simp
  rw [h1, h2]; rfl
theorem piece_at_ok {μ : Sto} {t p r : List Nat} {i : Nat} {Q : D → Sto → Prop} (hp : Pc p) (ht : t.drop i = p ++ r) (hl : t.length ≤ 1000000) (hQ : Q (.str p) μ) : wF F_piece_at [.str t, .int (i : Int)] μ Q := by
  have at0 : ∀ c p', p = c :: p' → t[i]? = some c := fun c p' e => by
    have : (t.drop i)[0]? = some c := by rw [ht, e]; rfl
    rw [List.getElem?_drop] at this
    simpa using this
  unfold F_piece_at
  rw [f_body]
  refine ⟨rfl, ?_⟩
  show wS _ [some (.str t), some (.int (i : Int)), none, none, none, none, none] μ _
  unfold m_piece_at
  rcases hp with ⟨c, rfl, hc⟩ | ⟨l, rfl, h1, h6, hL⟩ | ⟨l, rfl, h1, h8, hA, hL⟩
  · have hx := o_ixS (μ := μ) (at0 c [] rfl)
    rw [s_seq]
    have hc' : c ∈ ([40, 41, 124, 42, 43, 63] : List Nat) := hc
    simp only [w_bnd, w_ret, w_eC, w_var, w_opS, w_op, w_N, w_CB, w_CS, w_nil, w_cons, w_call, w_if, w_B, w_and, w_or, w_not, w_vAnd, w_vOr, w_vNot, w_neg, w_tup, w_lstF, w_lstC, w_chain, w_fld, w_sl, w_oN, w_oS, w_isLs, w_isSt, w_me, w_meth, w_methS, w_make, w_fmt, w_frz, w_isi, s_seq, s_next, s_set, s_asg, s_expr, s_ret, s_retN, s_if, s_cnt, s_brk, s_no, s_par, s_par3, s_tp, s_gsNil, s_gsCons, s_fld, s_fldT, s_sub, s_aug, s_fldA, s_augS, s_for, w_lc, w_src, w_srcL, w_srcT, w_srcS, w_srcR, w_rng1, wO_some, wO_none, List.getElem?_cons_zero, List.getElem?_cons_succ, List.set_cons_zero, List.set_cons_succ, fin_v, fin_lF, fin_lT, hx, o_inS]
    refine ⟨_, rfl, ?_⟩
    simp only [Bool.false_eq_true, if_false, decide_eq_true hc', if_true, hx, wO_some]
    rw [leave_same rfl]
    exact hQ
  · have hx := o_ixS (μ := μ) (at0 34 _ rfl)
    have hdr : t.drop (i + 1) = l ++ 34 :: r := by
      have : (t.drop i).drop 1 = l ++ 34 :: r := by rw [ht]; simp
      rwa [List.drop_drop] at this
    have h34 : (34 : Nat) ∉ l := fun h => by
      have := hL 34 h
      revert this; decide
    have hq : okQ l = true := by
      unfold okQ
      rw [decide_eq_true h1, decide_eq_true h6]
      simp only [Bool.and_self, Bool.true_and]
      exact List.all_eq_true.mpr fun c hc => decide_eq_true (hL c hc)
    have n1 : (34 : Nat) ∉ ([40, 41, 124, 42, 43, 63] : List Nat) := by decide
    have hpt : gPart (.str (t.drop (i + 1))) [.str [34]] μ = some (.tup [.str l, .str [34], .str r], μ) := by
      simp only [gPart]
      rw [hdr, part_at h34]
    have hsl : gSl (.str t) (some ((i : Int) + 1)) none μ = some (.v (.str (t.drop (i + 1)))) := by
      simp only [gSl]; rw [cut_from]
    have low3 : gAdd (.str [34]) (.str l) μ = some (.v (.str (34 :: l))) ∧ gAdd (.str (34 :: l)) (.str [34]) μ = some (.v (.str (34 :: l ++ [34]))) := by
      refine ⟨?_, ?_⟩
      · rw [o_addS (by simp [big]; omega)]; rfl
      · rw [o_addS (by simp [big]; omega)]
    have e34 : gEq false (.str [34]) (.str [34]) μ = some (.v (.bl true)) := rfl
    have ene : gEq true (.str [34]) (.str []) μ = some (.v (.bl true)) := rfl
    simp only [w_bnd, w_ret, w_eC, w_var, w_opS, w_op, w_N, w_CB, w_CS, w_nil, w_cons, w_call, w_if, w_B, w_and, w_or, w_not, w_vAnd, w_vOr, w_vNot, w_neg, w_tup, w_lstF, w_lstC, w_chain, w_fld, w_sl, w_oN, w_oS, w_isLs, w_isSt, w_me, w_meth, w_methS, w_make, w_fmt, w_frz, w_isi, s_seq, s_next, s_set, s_asg, s_expr, s_ret, s_retN, s_if, s_cnt, s_brk, s_no, s_par, s_par3, s_tp, s_gsNil, s_gsCons, s_fld, s_fldT, s_sub, s_aug, s_fldA, s_augS, s_for, w_lc, w_src, w_srcL, w_srcT, w_srcS, w_srcR, w_rng1, wO_some, wO_none, List.getElem?_cons_zero, List.getElem?_cons_succ, List.set_cons_zero, List.set_cons_succ, fin_v, fin_lF, fin_lT, hx, o_inS]
    refine ⟨_, rfl, ?_⟩
    simp only [Bool.false_eq_true, if_false, decide_eq_false n1, hx, wO_some]
    refine ⟨by simp, ?_⟩
    simp only [nin2, wO_some, fin_v]
    refine ⟨_, rfl, ?_⟩
    simp only [decide_true, Bool.true_or, Bool.not_true, Bool.false_eq_true, if_false, w_dct, w_bnd, w_ret, w_eC, w_var, w_opS, w_op, w_N, w_CB, w_CS, w_nil, w_cons, w_call, w_if, w_B, w_and, w_or, w_not, w_vAnd, w_vOr, w_vNot, w_neg, w_tup, w_lstF, w_lstC, w_chain, w_fld, w_sl, w_oN, w_oS, w_isLs, w_isSt, w_me, w_meth, w_methS, w_make, w_fmt, w_frz, w_isi, s_seq, s_next, s_set, s_asg, s_expr, s_ret, s_retN, s_if, s_cnt, s_brk, s_no, s_par, s_par3, s_tp, s_gsNil, s_gsCons, s_fld, s_fldT, s_sub, s_aug, s_fldA, s_augS, s_for, w_lc, w_src, w_srcL, w_srcT, w_srcS, w_srcR, w_rng1, wO_some, wO_none, List.getElem?_cons_zero, List.getElem?_cons_succ, List.set_cons_zero, List.set_cons_succ, fin_v, fin_lF, fin_lT, hx]
    refine ⟨[34], [34], rfl, rfl, by simp, ?_⟩
    simp only [w_bnd, w_ret, w_eC, w_var, w_opS, w_op, w_N, w_CB, w_CS, w_nil, w_cons, w_call, w_if, w_B, w_and, w_or, w_not, w_vAnd, w_vOr, w_vNot, w_neg, w_tup, w_lstF, w_lstC, w_chain, w_fld, w_sl, w_oN, w_oS, w_isLs, w_isSt, w_me, w_meth, w_methS, w_make, w_fmt, w_frz, w_isi, s_seq, s_next, s_set, s_asg, s_expr, s_ret, s_retN, s_if, s_cnt, s_brk, s_no, s_par, s_par3, s_tp, s_gsNil, s_gsCons, s_fld, s_fldT, s_sub, s_aug, s_fldA, s_augS, s_for, w_lc, w_src, w_srcL, w_srcT, w_srcS, w_srcR, w_rng1, wO_some, wO_none, List.getElem?_cons_zero, List.getElem?_cons_succ, List.set_cons_zero, List.set_cons_succ, fin_v, fin_lF, fin_lT, o_add]
    refine ⟨_, rfl, ?_⟩
    simp only [hsl, wO_some, fin_v]
    refine ⟨_, rfl, ?_⟩
    simp only [hpt, wO_some]
    refine ⟨_, rfl, rfl, ?_⟩
    simp only [w_bnd, w_ret, w_eC, w_var, w_opS, w_op, w_N, w_CB, w_CS, w_nil, w_cons, w_call, w_if, w_B, w_and, w_or, w_not, w_vAnd, w_vOr, w_vNot, w_neg, w_tup, w_lstF, w_lstC, w_chain, w_fld, w_sl, w_oN, w_oS, w_isLs, w_isSt, w_me, w_meth, w_methS, w_make, w_fmt, w_frz, w_isi, s_seq, s_next, s_set, s_asg, s_expr, s_ret, s_retN, s_if, s_cnt, s_brk, s_no, s_par, s_par3, s_tp, s_gsNil, s_gsCons, s_fld, s_fldT, s_sub, s_aug, s_fldA, s_augS, s_for, w_lc, w_src, w_srcL, w_srcT, w_srcS, w_srcR, w_rng1, wO_some, wO_none, List.getElem?_cons_zero, List.getElem?_cons_succ, List.set_cons_zero, List.set_cons_succ, fin_v, fin_lF, fin_lT, e34]
    refine ⟨_, rfl, ?_⟩
    simp only [if_true]
    refine is_quoted_ok (by omega) ?_
    rw [hq]
    simp only [w_bnd, w_ret, w_eC, w_var, w_opS, w_op, w_N, w_CB, w_CS, w_nil, w_cons, w_call, w_if, w_B, w_and, w_or, w_not, w_vAnd, w_vOr, w_vNot, w_neg, w_tup, w_lstF, w_lstC, w_chain, w_fld, w_sl, w_oN, w_oS, w_isLs, w_isSt, w_me, w_meth, w_methS, w_make, w_fmt, w_frz, w_isi, s_seq, s_next, s_set, s_asg, s_expr, s_ret, s_retN, s_if, s_cnt, s_brk, s_no, s_par, s_par3, s_tp, s_gsNil, s_gsCons, s_fld, s_fldT, s_sub, s_aug, s_fldA, s_augS, s_for, w_lc, w_src, w_srcL, w_srcT, w_srcS, w_srcR, w_rng1, wO_some, wO_none, List.getElem?_cons_zero, List.getElem?_cons_succ, List.set_cons_zero, List.set_cons_succ, fin_v, fin_lF, fin_lT, ene]
    refine ⟨_, rfl, ?_⟩
    simp only [if_true]
    refine ⟨_, rfl, ?_⟩
    simp only [if_true, hx, wO_some, low3.1, low3.2, fin_v]
    rw [leave_same rfl]
    exact hQ
  · have hx := o_ixS (μ := μ) (at0 91 _ rfl)
    have hdr : t.drop (i + 1) = l ++ 93 :: r := by
      have : (t.drop i).drop 1 = l ++ 93 :: r := by rw [ht]; simp
      rwa [List.drop_drop] at this
    have h34 : (93 : Nat) ∉ l := fun h => by
      have := hL 93 h
      revert this; decide
    have hq : okB l = true := by
      unfold okB
      rw [decide_eq_true h1, decide_eq_true h8, decide_eq_true hA]
      simp only [Bool.and_self, Bool.true_and, Bool.and_true]
      exact List.all_eq_true.mpr fun c hc => decide_eq_true (hL c hc)
    have n1 : (91 : Nat) ∉ ([40, 41, 124, 42, 43, 63] : List Nat) := by decide
    have hpt : gPart (.str (t.drop (i + 1))) [.str [93]] μ = some (.tup [.str l, .str [93], .str r], μ) := by
      simp only [gPart]
      rw [hdr, part_at h34]
    have hsl : gSl (.str t) (some ((i : Int) + 1)) none μ = some (.v (.str (t.drop (i + 1)))) := by
      simp only [gSl]; rw [cut_from]
    have low3 : gAdd (.str [91]) (.str l) μ = some (.v (.str (91 :: l))) ∧ gAdd (.str (91 :: l)) (.str [93]) μ = some (.v (.str (91 :: l ++ [93]))) := by
      refine ⟨?_, ?_⟩
      · rw [o_addS (by simp [big]; omega)]; rfl
      · rw [o_addS (by simp [big]; omega)]
    have e34 : gEq false (.str [93]) (.str [34]) μ = some (.v (.bl false)) := rfl
    have ene : gEq true (.str [93]) (.str []) μ = some (.v (.bl true)) := rfl
    simp only [w_bnd, w_ret, w_eC, w_var, w_opS, w_op, w_N, w_CB, w_CS, w_nil, w_cons, w_call, w_if, w_B, w_and, w_or, w_not, w_vAnd, w_vOr, w_vNot, w_neg, w_tup, w_lstF, w_lstC, w_chain, w_fld, w_sl, w_oN, w_oS, w_isLs, w_isSt, w_me, w_meth, w_methS, w_make, w_fmt, w_frz, w_isi, s_seq, s_next, s_set, s_asg, s_expr, s_ret, s_retN, s_if, s_cnt, s_brk, s_no, s_par, s_par3, s_tp, s_gsNil, s_gsCons, s_fld, s_fldT, s_sub, s_aug, s_fldA, s_augS, s_for, w_lc, w_src, w_srcL, w_srcT, w_srcS, w_srcR, w_rng1, wO_some, wO_none, List.getElem?_cons_zero, List.getElem?_cons_succ, List.set_cons_zero, List.set_cons_succ, fin_v, fin_lF, fin_lT, hx, o_inS]
    refine ⟨_, rfl, ?_⟩
    simp only [Bool.false_eq_true, if_false, decide_eq_false n1, hx, wO_some]
    refine ⟨by simp, ?_⟩
    simp only [nin2, wO_some, fin_v]
    refine ⟨_, rfl, ?_⟩
    simp only [decide_true, Bool.or_true, Bool.not_true, Bool.false_eq_true, if_false, w_dct, w_bnd, w_ret, w_eC, w_var, w_opS, w_op, w_N, w_CB, w_CS, w_nil, w_cons, w_call, w_if, w_B, w_and, w_or, w_not, w_vAnd, w_vOr, w_vNot, w_neg, w_tup, w_lstF, w_lstC, w_chain, w_fld, w_sl, w_oN, w_oS, w_isLs, w_isSt, w_me, w_meth, w_methS, w_make, w_fmt, w_frz, w_isi, s_seq, s_next, s_set, s_asg, s_expr, s_ret, s_retN, s_if, s_cnt, s_brk, s_no, s_par, s_par3, s_tp, s_gsNil, s_gsCons, s_fld, s_fldT, s_sub, s_aug, s_fldA, s_augS, s_for, w_lc, w_src, w_srcL, w_srcT, w_srcS, w_srcR, w_rng1, wO_some, wO_none, List.getElem?_cons_zero, List.getElem?_cons_succ, List.set_cons_zero, List.set_cons_succ, fin_v, fin_lF, fin_lT, hx]
    refine ⟨[91], [93], rfl, rfl, by simp, ?_⟩
    simp only [w_bnd, w_ret, w_eC, w_var, w_opS, w_op, w_N, w_CB, w_CS, w_nil, w_cons, w_call, w_if, w_B, w_and, w_or, w_not, w_vAnd, w_vOr, w_vNot, w_neg, w_tup, w_lstF, w_lstC, w_chain, w_fld, w_sl, w_oN, w_oS, w_isLs, w_isSt, w_me, w_meth, w_methS, w_make, w_fmt, w_frz, w_isi, s_seq, s_next, s_set, s_asg, s_expr, s_ret, s_retN, s_if, s_cnt, s_brk, s_no, s_par, s_par3, s_tp, s_gsNil, s_gsCons, s_fld, s_fldT, s_sub, s_aug, s_fldA, s_augS, s_for, w_lc, w_src, w_srcL, w_srcT, w_srcS, w_srcR, w_rng1, wO_some, wO_none, List.getElem?_cons_zero, List.getElem?_cons_succ, List.set_cons_zero, List.set_cons_succ, fin_v, fin_lF, fin_lT, o_add]
    refine ⟨_, rfl, ?_⟩
    simp only [hsl, wO_some, fin_v]
    refine ⟨_, rfl, ?_⟩
    simp only [hpt, wO_some]
    refine ⟨_, rfl, rfl, ?_⟩
    simp only [w_bnd, w_ret, w_eC, w_var, w_opS, w_op, w_N, w_CB, w_CS, w_nil, w_cons, w_call, w_if, w_B, w_and, w_or, w_not, w_vAnd, w_vOr, w_vNot, w_neg, w_tup, w_lstF, w_lstC, w_chain, w_fld, w_sl, w_oN, w_oS, w_isLs, w_isSt, w_me, w_meth, w_methS, w_make, w_fmt, w_frz, w_isi, s_seq, s_next, s_set, s_asg, s_expr, s_ret, s_retN, s_if, s_cnt, s_brk, s_no, s_par, s_par3, s_tp, s_gsNil, s_gsCons, s_fld, s_fldT, s_sub, s_aug, s_fldA, s_augS, s_for, w_lc, w_src, w_srcL, w_srcT, w_srcS, w_srcR, w_rng1, wO_some, wO_none, List.getElem?_cons_zero, List.getElem?_cons_succ, List.set_cons_zero, List.set_cons_succ, fin_v, fin_lF, fin_lT, e34]
    refine ⟨_, rfl, ?_⟩
    simp only [Bool.false_eq_true, if_false]
    refine is_bracketed_ok (by omega) ?_
    rw [hq]
    simp only [w_bnd, w_ret, w_eC, w_var, w_opS, w_op, w_N, w_CB, w_CS, w_nil, w_cons, w_call, w_if, w_B, w_and, w_or, w_not, w_vAnd, w_vOr, w_vNot, w_neg, w_tup, w_lstF, w_lstC, w_chain, w_fld, w_sl, w_oN, w_oS, w_isLs, w_isSt, w_me, w_meth, w_methS, w_make, w_fmt, w_frz, w_isi, s_seq, s_next, s_set, s_asg, s_expr, s_ret, s_retN, s_if, s_cnt, s_brk, s_no, s_par, s_par3, s_tp, s_gsNil, s_gsCons, s_fld, s_fldT, s_sub, s_aug, s_fldA, s_augS, s_for, w_lc, w_src, w_srcL, w_srcT, w_srcS, w_srcR, w_rng1, wO_some, wO_none, List.getElem?_cons_zero, List.getElem?_cons_succ, List.set_cons_zero, List.set_cons_succ, fin_v, fin_lF, fin_lT, ene]
    refine ⟨_, rfl, ?_⟩
    simp only [if_true]
    refine ⟨_, rfl, ?_⟩
    simp only [if_true, hx, wO_some, low3.1, low3.2, fin_v]
    rw [leave_same rfl]
    exact hQ
end K01

set_option maxRecDepth 100000
set_option maxHeartbeats 1000000
namespace K01
open PySem L2 PyProof.Rows PySem.Spec Ab
theorem f_plusI {i j : Int} {μ : Sto} : fPlus (.int i) (.int j) μ = some (.int (i + j), μ) := rfl
theorem f_plusII {i j : Int} {μ : Sto} : fPlusI (.int i) (.int j) μ = some (.int (i + j), μ) := rfl
theorem f_plusS {a b : List Nat} {μ : Sto} (h : a.length + b.length ≤ big) : fPlus (.str a) (.str b) μ = some (.str (a ++ b), μ) := by
  simp only [fPlus, gPlus, gI, gAddS, if_pos h]; rfl
theorem Own.leaveL {μ μ1 : Sto} {c : Nat} {xs : List D} (h : Own μ μ1 c xs) (hd : NoRefs xs) : Ab.leave μ (.ref (μ.length + c)) μ1 = (.lst xs, μ) := by
  have e := h.at_
  obtain ⟨l, rfl, h⟩ := h
  refine leave_pure ?_ (by simp only [refsLt]; exact hd _)
  simp only [leaveD]
  rw [if_pos (by omega), e]
theorem Pc.ne32 {p : List Nat} (h : Pc p) : ∃ c p', p = c :: p' ∧ c ≠ 32 := by
  rcases h with ⟨c, rfl, hc⟩ | ⟨l, rfl, _, _, hl⟩ | ⟨l, rfl, _, _, _, hl⟩
  · refine ⟨c, [], rfl, fun e => ?_⟩
    subst e; revert hc; decide
  · exact ⟨34, _, rfl, by decide⟩
  · exact ⟨91, _, rfl, by decide⟩
theorem drop_head {t : List Nat} {i c : Nat} {r : List Nat} (h : t.drop i = c :: r) : t[i]? = some c ∧ t.drop (i + 1) = r := by
  have h1 : (t.drop i)[0]? = some c := by rw [h]; rfl
  rw [List.getElem?_drop] at h1
  refine ⟨by simpa using h1, ?_⟩
  have h2 : (t.drop i).drop 1 = r := by rw [h]; rfl
  rwa [List.drop_drop] at h2
theorem pieces_of_ok {μ : Sto} {t : List Nat} {ps : List (List Nat)} {Q : D → Sto → Prop} (h : Sp ps t) (hl : t.length ≤ 500000) (hQ : Q (.lst (psS ps)) μ) : wF F_pieces_of [.str t] μ Q := by
  unfold F_pieces_of
  rw [f_body]
  refine ⟨rfl, ?_⟩
  show wS _ [some (.str t), none, none, none] μ _
  unfold m_pieces_of
  refine q_seq (fun Γ' μ' => Γ' = [some (.str t), some (.ref (μ.length + 0)), some (.int ((0 : Nat) : Int)), none] ∧ Own μ μ' 0 (psS [])) ?_ ?_
  · simp only [w_bnd, w_ret, w_eC, w_var, w_opS, w_op, w_N, w_CB, w_CS, w_nil, w_cons, w_call, w_if, w_B, w_and, w_or, w_not, w_vAnd, w_vOr, w_vNot, w_neg, w_tup, w_lstF, w_lstC, w_chain, w_fld, w_sl, w_oN, w_oS, w_isLs, w_isSt, w_me, w_meth, w_methS, w_make, w_fmt, w_frz, w_isi, s_seq, s_next, s_set, s_asg, s_expr, s_ret, s_retN, s_if, s_cnt, s_brk, s_no, s_par, s_par3, s_tp, s_gsNil, s_gsCons, s_fld, s_fldT, s_sub, s_aug, s_fldA, s_augS, s_for, w_lc, w_src, w_srcL, w_srcT, w_srcS, w_srcR, w_rng1, wO_some, wO_none, List.getElem?_cons_zero, List.getElem?_cons_succ, List.set_cons_zero, List.set_cons_succ, fin_v, fin_lF, fin_lT]
    exact ⟨by simp, _, _, rfl, rfl, [.lst []], rfl, rfl⟩
  rintro Γ' μ' ⟨rfl, hO⟩
  refine q_seq (fun Γ' μ' => ∃ x2 x3, Γ' = [some (.str t), some (.ref (μ.length + 0)), x2, x3] ∧ Own μ μ' 0 (psS ps)) ?_ ?_
  · refine s_while (fun m Γ' μ' => ∃ (i : Nat) (dn qs : List (List Nat)) (x3 : Option D), Γ' = [some (.str t), some (.ref (μ.length + 0)), some (.int (i : Int)), x3] ∧ Own μ μ' 0 (psS dn) ∧ ps = dn ++ qs ∧ Sp qs (t.drop i) ∧ i ≤ t.length ∧ dn.length ≤ i ∧ m = t.length - i) ?_ ?_
    · exact ⟨t.length, by show _ < 1000000; omega, 0, [], ps, none, rfl, hO, rfl, h, Nat.zero_le _, Nat.zero_le _, rfl⟩
    rintro m Γ1 μ1 ⟨i, dn, qs, x3, rfl, hO, hps, hS, hi, hdn, rfl⟩
    simp only [w_bnd, w_ret, w_eC, w_var, w_opS, w_op, w_N, w_CB, w_CS, w_nil, w_cons, w_call, w_if, w_B, w_and, w_or, w_not, w_vAnd, w_vOr, w_vNot, w_neg, w_tup, w_lstF, w_lstC, w_chain, w_fld, w_sl, w_oN, w_oS, w_isLs, w_isSt, w_me, w_meth, w_methS, w_make, w_fmt, w_frz, w_isi, s_seq, s_next, s_set, s_asg, s_expr, s_ret, s_retN, s_if, s_cnt, s_brk, s_no, s_par, s_par3, s_tp, s_gsNil, s_gsCons, s_fld, s_fldT, s_sub, s_aug, s_fldA, s_augS, s_for, w_lc, w_src, w_srcL, w_srcT, w_srcS, w_srcR, w_rng1, wO_some, wO_none, List.getElem?_cons_zero, List.getElem?_cons_succ, List.set_cons_zero, List.set_cons_succ, fin_v, fin_lF, fin_lT, o_lenS, o_lt]
    refine ⟨_, rfl, ?_⟩
    by_cases hlt : i < t.length
    · rw [decide_eq_true (show (i : Int) < (t.length : Int) by omega), if_pos rfl]
      generalize hu : t.drop i = u at hS
      cases hS with
      | nil =>
        have : (t.drop i).length = 0 := by rw [hu]; rfl
        rw [List.length_drop] at this
        omega
      | sp hS =>
        obtain ⟨h0, h1⟩ := drop_head hu
        have hx := o_ixS (μ := μ1) h0
        have e32 : gEq false (.str [32]) (.str [32]) μ1 = some (.v (.bl true)) := rfl
        simp only [w_bnd, w_ret, w_eC, w_var, w_opS, w_op, w_N, w_CB, w_CS, w_nil, w_cons, w_call, w_if, w_B, w_and, w_or, w_not, w_vAnd, w_vOr, w_vNot, w_neg, w_tup, w_lstF, w_lstC, w_chain, w_fld, w_sl, w_oN, w_oS, w_isLs, w_isSt, w_me, w_meth, w_methS, w_make, w_fmt, w_frz, w_isi, s_seq, s_next, s_set, s_asg, s_expr, s_ret, s_retN, s_if, s_cnt, s_brk, s_no, s_par, s_par3, s_tp, s_gsNil, s_gsCons, s_fld, s_fldT, s_sub, s_aug, s_fldA, s_augS, s_for, w_lc, w_src, w_srcL, w_srcT, w_srcS, w_srcR, w_rng1, wO_some, wO_none, List.getElem?_cons_zero, List.getElem?_cons_succ, List.set_cons_zero, List.set_cons_succ, fin_v, fin_lF, fin_lT, hx, e32]
        refine ⟨_, rfl, ?_⟩
        simp only [if_true, wO_some, f_plusI]
        refine ⟨t.length - (i + 1), by omega, i + 1, dn, qs, x3, by simp, hO, hps, ?_, by omega, by omega, rfl⟩
        rw [h1]; exact hS
      | @pc p qs' u' hp hS =>
        obtain ⟨c, p', rfl, hc⟩ := hp.ne32
        obtain ⟨h0, h1⟩ := drop_head (r := p' ++ u') hu
        have hx := o_ixS (μ := μ1) h0
        have e32 : gEq false (.str [c]) (.str [32]) μ1 = some (.v (.bl false)) := by
          rw [o_eqS]; simp [hc]
        have eE : ∀ ν, gEq false (.str (c :: p')) (.str []) ν = some (.v (.bl false)) := fun ν => by
          rw [o_eqS]; simp
        simp only [w_bnd, w_ret, w_eC, w_var, w_opS, w_op, w_N, w_CB, w_CS, w_nil, w_cons, w_call, w_if, w_B, w_and, w_or, w_not, w_vAnd, w_vOr, w_vNot, w_neg, w_tup, w_lstF, w_lstC, w_chain, w_fld, w_sl, w_oN, w_oS, w_isLs, w_isSt, w_me, w_meth, w_methS, w_make, w_fmt, w_frz, w_isi, s_seq, s_next, s_set, s_asg, s_expr, s_ret, s_retN, s_if, s_cnt, s_brk, s_no, s_par, s_par3, s_tp, s_gsNil, s_gsCons, s_fld, s_fldT, s_sub, s_aug, s_fldA, s_augS, s_for, w_lc, w_src, w_srcL, w_srcT, w_srcS, w_srcR, w_rng1, wO_some, wO_none, List.getElem?_cons_zero, List.getElem?_cons_succ, List.set_cons_zero, List.set_cons_succ, fin_v, fin_lF, fin_lT, hx, e32]
        refine ⟨_, rfl, ?_⟩
        simp only [Bool.false_eq_true, if_false]
        refine piece_at_ok hp hu (by omega) ?_
        have hl2 := hp.len
        have hlen : (c :: p').length ≤ t.length - i := by
          have : (t.drop i).length = t.length - i := List.length_drop
          rw [hu, List.length_append] at this
          omega
        simp only [w_bnd, w_ret, w_eC, w_var, w_opS, w_op, w_N, w_CB, w_CS, w_nil, w_cons, w_call, w_if, w_B, w_and, w_or, w_not, w_vAnd, w_vOr, w_vNot, w_neg, w_tup, w_lstF, w_lstC, w_chain, w_fld, w_sl, w_oN, w_oS, w_isLs, w_isSt, w_me, w_meth, w_methS, w_make, w_fmt, w_frz, w_isi, s_seq, s_next, s_set, s_asg, s_expr, s_ret, s_retN, s_if, s_cnt, s_brk, s_no, s_par, s_par3, s_tp, s_gsNil, s_gsCons, s_fld, s_fldT, s_sub, s_aug, s_fldA, s_augS, s_for, w_lc, w_src, w_srcL, w_srcT, w_srcS, w_srcR, w_rng1, wO_some, wO_none, List.getElem?_cons_zero, List.getElem?_cons_succ, List.set_cons_zero, List.set_cons_succ, fin_v, fin_lF, fin_lT, l_ref hO.at_, o_append hO.at_ (show (psS dn).length < big by rw [psS_len]; show _ < 1000000; omega), eE]
        refine ⟨_, rfl, ?_⟩
        simp only [Bool.false_eq_true, if_false, o_lenS, wO_some, fin_v, f_plusI]
        refine ⟨t.length - (i + (c :: p').length), by simp only [List.length_cons] at hlen ⊢; omega, i + (c :: p').length, dn ++ [c :: p'], qs', some (.str (c :: p')), ?_, ?_, ?_, ?_, by omega, ?_, rfl⟩
        · simp
        · rw [psS_app]; exact hO.set
        · rw [hps]; simp
        · have : (t.drop i).drop (c :: p').length = u' := by rw [hu]; exact List.drop_left
          rw [List.drop_drop] at this
          rw [this]; exact hS
        · simp; omega
    · rw [decide_eq_false (show ¬ (i : Int) < (t.length : Int) by omega)]
      simp only [Bool.false_eq_true, if_false]
      have hd : t.drop i = [] := List.drop_eq_nil_of_le (by omega)
      rw [hd] at hS
      cases qs with
      | nil =>
        rw [List.append_nil] at hps
        rw [hps]
        exact ⟨_, _, rfl, hO⟩
      | cons p qs' =>
        generalize hu : ([] : List Nat) = u at hS
        cases hS with
        | sp _ => cases hu
        | pc hp _ =>
          obtain ⟨c, p', rfl, _⟩ := hp.ne32
          cases hu
  rintro Γ' μ' ⟨x2, x3, rfl, hO⟩
  simp only [w_bnd, w_ret, w_eC, w_var, w_opS, w_op, w_N, w_CB, w_CS, w_nil, w_cons, w_call, w_if, w_B, w_and, w_or, w_not, w_vAnd, w_vOr, w_vNot, w_neg, w_tup, w_lstF, w_lstC, w_chain, w_fld, w_sl, w_oN, w_oS, w_isLs, w_isSt, w_me, w_meth, w_methS, w_make, w_fmt, w_frz, w_isi, s_seq, s_next, s_set, s_asg, s_expr, s_ret, s_retN, s_if, s_cnt, s_brk, s_no, s_par, s_par3, s_tp, s_gsNil, s_gsCons, s_fld, s_fldT, s_sub, s_aug, s_fldA, s_augS, s_for, w_lc, w_src, w_srcL, w_srcT, w_srcS, w_srcR, w_rng1, wO_some, wO_none, List.getElem?_cons_zero, List.getElem?_cons_succ, List.set_cons_zero, List.set_cons_succ, fin_v, fin_lF, fin_lT]
  rw [hO.leaveL (noref_strs _)]
  exact hQ
end K01

set_option maxRecDepth 100000
set_option maxHeartbeats 1000000
namespace K01
open PySem L2 PyProof.Rows PySem.Spec Ab
/-! ### the reader -/
def rdO (ps : List (List Nat)) (i : Nat) : O := .ins 0 [.lst (psS ps), .int (i : Int)]
def hereB (ps : List (List Nat)) (i : Nat) (ss : List (List Nat)) : Bool := match ps[i]? with | some p => decide (p ∈ ss) | none => false
def firstB (ps : List (List Nat)) (i : Nat) : Bool := match ps[i]? with | some p => decide (p.take 1 ∈ ([[34], [91], [40]] : List (List Nat))) | none => false
theorem in_strs {μ : Sto} {p : List Nat} {ss : List (List Nat)} : gIn false (.str p) (.tup (ss.map .str)) μ = some (.v (.bl (decide (p ∈ ss)))) := by
  have e1 : (ss.map D.str).all flatD = true := by
    rw [List.all_map]; exact List.all_eq_true.mpr fun _ _ => rfl
  have e2 : ((ss.map D.str).any fun y => eqF y (.str p)) = decide (p ∈ ss) := by
    rw [List.any_map, Bool.eq_iff_iff]
    simp [eqF]
  have : gInQ false (.str p) (.tup (ss.map .str)) μ = some (.v (.bl (decide (p ∈ ss)))) := by
    simp only [gInQ, asSeq]
    rw [e1, e2]
    simp [flatD]
  simp only [gIn, this]
theorem ps_at {ps : List (List Nat)} {i : Nat} {p : List Nat} (h : ps[i]? = some p) : (psS ps)[i]? = some (.str p) := by simp [psS, h]
theorem is_here_ok {μ : Sto} {r i : Nat} {ps ss : List (List Nat)} {Q : D → Sto → Prop} (h : μ[r]? = some (rdO ps i)) (hs : ss.length ≤ 1000) (hQ : Q (.bl (hereB ps i ss)) μ) : wF F_Reader_is_here (.ref r :: ss.map .str) μ Q := by
  unfold F_Reader_is_here
  rw [f_star]
  refine ⟨⟨by simp, by simp; omega⟩, ?_⟩
  show wF _ [.ref r, .tup (ss.map .str)] μ Q
  rw [f_body]
  refine ⟨rfl, ?_⟩
  show wS _ [some (.ref r), some (.tup (ss.map .str))] μ _
  unfold m_Reader_is_here
  have g0 : getF [(0, 0)] (.ref r) μ = some (.lst (psS ps)) := o_getF h rfl
  have g1 : getF [(0, 1)] (.ref r) μ = some (.int (i : Int)) := o_getF h rfl
  simp only [w_bnd, w_ret, w_eC, w_var, w_opS, w_op, w_N, w_CB, w_CS, w_nil, w_cons, w_call, w_if, w_B, w_and, w_or, w_not, w_vAnd, w_vOr, w_vNot, w_neg, w_tup, w_lstF, w_lstC, w_chain, w_fld, w_sl, w_oN, w_oS, w_isLs, w_isSt, w_me, w_meth, w_methS, w_make, w_fmt, w_frz, w_isi, s_seq, s_next, s_set, s_asg, s_expr, s_ret, s_retN, s_if, s_cnt, s_brk, s_no, s_par, s_par3, s_tp, s_gsNil, s_gsCons, s_fld, s_fldT, s_sub, s_aug, s_fldA, s_augS, s_for, w_lc, w_src, w_srcL, w_srcT, w_srcS, w_srcR, w_rng1, wO_some, wO_none, List.getElem?_cons_zero, List.getElem?_cons_succ, List.set_cons_zero, List.set_cons_succ, fin_v, fin_lF, fin_lT, g0, g1, o_lenL, o_lt, psS_len]
  refine ⟨_, rfl, ?_⟩
  unfold hereB at hQ
  cases hp : ps[i]? with
  | none =>
    rw [hp] at hQ
    have := List.getElem?_eq_none_iff.mp hp
    rw [decide_eq_false (show ¬ (i : Int) < (ps.length : Int) by omega)]
    simp only [Bool.false_eq_true, if_false]
    rw [leave_same rfl]
    exact hQ
  | some p =>
    rw [hp] at hQ
    have := (List.getElem?_eq_some_iff.mp hp).1
    rw [decide_eq_true (show (i : Int) < (ps.length : Int) by omega)]
    simp only [if_true, o_ixL (ps_at hp), wO_some, in_strs, fin_v]
    rw [leave_same rfl]
    exact hQ
theorem cut_one (l : List Nat) : cutL l none (some 1) = l.take 1 := by
  unfold cutL
  have e : HT.sIx l.length l.length (some 1) = min 1 l.length := rfl
  have e0 : HT.sIx l.length 0 none = 0 := rfl
  rw [e, e0, List.drop_zero, Nat.sub_zero]
  cases l with
  | nil => rfl
  | cons c l =>
    have : min 1 (c :: l).length = 1 := by simp
    rw [this]
theorem begins_ok {μ : Sto} {r i : Nat} {ps : List (List Nat)} {Q : D → Sto → Prop} (h : μ[r]? = some (rdO ps i)) (hQ : Q (.bl (firstB ps i)) μ) : wF F_Reader_begins_item [.ref r] μ Q := by
  unfold F_Reader_begins_item
  rw [f_body]
  refine ⟨rfl, ?_⟩
  show wS _ [some (.ref r)] μ _
  unfold m_Reader_begins_item
  have g0 : getF [(0, 0)] (.ref r) μ = some (.lst (psS ps)) := o_getF h rfl
  have g1 : getF [(0, 1)] (.ref r) μ = some (.int (i : Int)) := o_getF h rfl
  simp only [w_bnd, w_ret, w_eC, w_var, w_opS, w_op, w_N, w_CB, w_CS, w_nil, w_cons, w_call, w_if, w_B, w_and, w_or, w_not, w_vAnd, w_vOr, w_vNot, w_neg, w_tup, w_lstF, w_lstC, w_chain, w_fld, w_sl, w_oN, w_oS, w_isLs, w_isSt, w_me, w_meth, w_methS, w_make, w_fmt, w_frz, w_isi, s_seq, s_next, s_set, s_asg, s_expr, s_ret, s_retN, s_if, s_cnt, s_brk, s_no, s_par, s_par3, s_tp, s_gsNil, s_gsCons, s_fld, s_fldT, s_sub, s_aug, s_fldA, s_augS, s_for, w_lc, w_src, w_srcL, w_srcT, w_srcS, w_srcR, w_rng1, wO_some, wO_none, List.getElem?_cons_zero, List.getElem?_cons_succ, List.set_cons_zero, List.set_cons_succ, fin_v, fin_lF, fin_lT, g0, g1, o_lenL, o_lt, psS_len]
  refine ⟨_, rfl, ?_⟩
  unfold firstB at hQ
  cases hp : ps[i]? with
  | none =>
    rw [hp] at hQ
    have := List.getElem?_eq_none_iff.mp hp
    rw [decide_eq_false (show ¬ (i : Int) < (ps.length : Int) by omega)]
    simp only [Bool.false_eq_true, if_false]
    rw [leave_same rfl]
    exact hQ
  | some p =>
    rw [hp] at hQ
    have := (List.getElem?_eq_some_iff.mp hp).1
    rw [decide_eq_true (show (i : Int) < (ps.length : Int) by omega)]
    have e1 : gSl (.str p) none (some 1) μ = some (.v (.str (p.take 1))) := by
      simp only [gSl]; rw [cut_one]
    simp only [if_true, o_ixL (ps_at hp), wO_some]
    refine ⟨_, rfl, ?_⟩
    simp only [e1, wO_some, fin_v]
    refine ⟨by simp, ?_⟩
    have e2 := in_strs (μ := μ) (p := p.take 1) (ss := [[34], [91], [40]])
    simp only [List.map_cons, List.map_nil] at e2
    rw [e2, wO_some, fin_v, leave_same rfl]
    exact hQ
/-! ### what may be read, told of the attributes alone -/
def ItQ (B : List At → Prop) (a : At) : Prop := ∃ s, IsSg s ∧
  ((∃ l, 1 ≤ l.length ∧ l.length ≤ 6 ∧ Ltr l ∧ a = ⟨(34 :: l ++ [34]) :: sgP s, (34 :: l ++ [34]) ++ s, l.length, sgT s (tAll (l.map fun c => tOne [c]))⟩) ∨
  (∃ l, 1 ≤ l.length ∧ l.length ≤ 8 ∧ Asc l ∧ Ltr l ∧ a = ⟨(91 :: l ++ [93]) :: sgP s, (91 :: l ++ [93]) ++ s, 1, sgT s (tOne l)⟩) ∨
  (∃ as, B as ∧ a = ⟨[40] :: (psB as ++ [41] :: sgP s), (40 :: wB as ++ [41]) ++ s, cB as, sgT s (tOr (as.map (·.t)))⟩))
def BrQ (I : At → Prop) (as : List At) : Prop := as ≠ [] ∧ ∀ a ∈ as, ∃ is, is ≠ [] ∧ (∀ i ∈ is, I i) ∧ a = bAt is
def ItA : Nat → At → Prop
  | 0 => ItQ fun _ => False
  | n + 1 => ItQ (BrQ (ItA n))
theorem itA_mono : ∀ {n m : Nat} {a : At}, n ≤ m → ItA n a → ItA m a
  | 0, 0, _, _, h => h
  | 0, m + 1, a, _, ⟨s, hs, h⟩ => ⟨s, hs, by
      rcases h with h | h | ⟨as, h, _⟩
      · exact .inl h
      · exact .inr (.inl h)
      · exact h.elim⟩
  | n + 1, 0, _, hn, _ => by omega
  | n + 1, m + 1, a, hn, ⟨s, hs, h⟩ => ⟨s, hs, by
      rcases h with h | h | ⟨as, h, e⟩
      · exact .inl h
      · exact .inr (.inl h)
      · exact .inr (.inr ⟨as, ⟨h.1, fun b hb => by
          obtain ⟨is, h1, h2, h3⟩ := h.2 b hb
          exact ⟨is, h1, fun i hi => itA_mono (by omega) (h2 i hi), h3⟩⟩, e⟩)⟩
theorem All2.all {α β : Type} {R : α → β → Prop} {P : β → Prop} {xs : List α} {ys : List β} (h : All2 R xs ys) (g : ∀ x y, R x y → P y) : ∀ y ∈ ys, P y := fun y hy => by
  obtain ⟨x, _, hx⟩ := h.mem' hy
  exact g x y hx
theorem itA_of : ∀ (n : Nat) (d : D) (a : At), ItR n d a → ItA n a
  | 0, d, a, ⟨s, hs, h⟩ => ⟨s, hs, by
      rcases h with ⟨l, h1, h2, h3, _, e⟩ | ⟨l, h1, h2, h3, h4, _, e⟩ | ⟨bs, as, h, _⟩
      · exact .inl ⟨l, h1, h2, h3.ltr, e⟩
      · exact .inr (.inl ⟨l, h1, h2, h3, h4.ltr, e⟩)
      · exact h.elim⟩
  | n + 1, d, a, ⟨s, hs, h⟩ => ⟨s, hs, by
      rcases h with ⟨l, h1, h2, h3, _, e⟩ | ⟨l, h1, h2, h3, h4, _, e⟩ | ⟨bs, as, h, _, e⟩
      · exact .inl ⟨l, h1, h2, h3.ltr, e⟩
      · exact .inr (.inl ⟨l, h1, h2, h3, h4.ltr, e⟩)
      · refine .inr (.inr ⟨as, ⟨fun e => ?_, h.2.2.all fun d a hd => ?_⟩, e⟩)
        · have := h.2.2.1
          rw [e] at this
          exact h.1 (List.eq_nil_of_length_eq_zero this)
        · obtain ⟨ds, is, _, hne, _, hi, e⟩ := hd
          refine ⟨is, fun e => ?_, hi.all fun d a => itA_of n d a, e⟩
          have := hi.1
          rw [e] at this
          exact hne (List.eq_nil_of_length_eq_zero this)⟩
theorem brQ_of {n : Nat} {bs : List D} {as : List At} (h : BrsP (ItR n) bs as) : BrQ (ItA n) as := by
  refine ⟨fun e => ?_, h.2.2.all fun d a hd => ?_⟩
  · have := h.2.2.1
    rw [e] at this
    exact h.1 (List.eq_nil_of_length_eq_zero this)
  · obtain ⟨ds, is, _, hne, _, hi, e⟩ := hd
    refine ⟨is, fun e => ?_, hi.all fun d a => itA_of n d a, e⟩
    have := hi.1
    rw [e] at this
    exact hne (List.eq_nil_of_length_eq_zero this)
theorem psB_cons (a : At) : ∀ as : List At, psB (a :: as) = a.ps ++ (as.map fun b => [124] :: b.ps).flatten := by
  intro as
  unfold psB
  induction as generalizing a with
  | nil => simp [List.dropLast_append_of_ne_nil]
  | cons b as ih =>
    have := ih b
    simp only [List.map_cons, List.flatten_cons] at this ⊢
    rw [List.append_assoc, List.dropLast_append_of_ne_nil (by simp), List.singleton_append, List.dropLast_cons_of_ne_nil (by simp), this]
    simp
/-! ### trees hold no cells -/
theorem noref_one (l : List Nat) : NoRef (tOne l) := fun n => rfl
theorem noref_sgT {s : List Nat} {t : D} (h : NoRef t) : NoRef (sgT s t) := by
  unfold sgT
  split
  · exact h
  · intro n
    simp [refsLt, refsLts, h n]
theorem norefs_map {α : Type} {f : α → D} : ∀ {xs : List α}, (∀ x ∈ xs, NoRef (f x)) → NoRefs (xs.map f)
  | [], _ => fun n => rfl
  | x :: xs, h => fun n => by
    show refsLts n (f x :: xs.map f) = true
    simp only [refsLts, h x (by simp) n, norefs_map (xs := xs) (fun y hy => h y (by simp [hy])) n, Bool.and_self]
theorem noref_all {ts : List D} (h : NoRefs ts) : NoRef (tAll ts) := fun n => by simp [tAll, refsLt, refsLts, h n]
theorem noref_or {ts : List D} (h : NoRefs ts) : NoRef (tOr ts) := fun n => by simp [tOr, refsLt, refsLts, h n]
theorem noref_t : ∀ (n : Nat) (a : At), ItA n a → NoRef a.t
  | 0, a, ⟨s, hs, h⟩ => by
    rcases h with ⟨l, _, _, _, rfl⟩ | ⟨l, _, _, _, _, rfl⟩ | ⟨as, h, _⟩
    · exact noref_sgT (noref_all (norefs_map fun _ _ => noref_one _))
    · exact noref_sgT (noref_one _)
    · exact h.elim
  | n + 1, a, ⟨s, hs, h⟩ => by
    rcases h with ⟨l, _, _, _, rfl⟩ | ⟨l, _, _, _, _, rfl⟩ | ⟨as, h, rfl⟩
    · exact noref_sgT (noref_all (norefs_map fun _ _ => noref_one _))
    · exact noref_sgT (noref_one _)
    · refine noref_sgT (noref_or (norefs_map fun b hb => ?_))
      obtain ⟨is, _, h2, rfl⟩ := h.2 b hb
      exact noref_all (norefs_map fun i hi => noref_t n i (h2 i hi))
end K01

set_option maxRecDepth 100000
set_option maxHeartbeats 1000000
namespace K01
open PySem L2 PyProof.Rows PySem.Spec Ab
theorem drop_add {α : Type} {ps x y : List α} {i : Nat} (h : ps.drop i = x ++ y) : ps.drop (i + x.length) = y := by
  have : (ps.drop i).drop x.length = y := by rw [h]; exact List.drop_left
  rwa [List.drop_drop] at this
theorem drop_at {α : Type} {ps y : List α} {i : Nat} {x : α} (h : ps.drop i = x :: y) : ps[i]? = some x := by
  have h1 : (ps.drop i)[0]? = some x := by rw [h]; rfl
  rw [List.getElem?_drop] at h1
  simpa using h1
theorem drop_end {α : Type} {ps : List α} {i : Nat} (h : ps.drop i = []) : ps[i]? = none := by
  have h1 : (ps.drop i)[0]? = none := by rw [h]; rfl
  rw [List.getElem?_drop] at h1
  simpa using h1
def Follow (rest : List (List Nat)) : Prop := rest = [] ∨ ∃ p q, rest = p :: q ∧ (p = [124] ∨ p = [41])
def NoSg (rest : List (List Nat)) : Prop := rest = [] ∨ ∃ p q, rest = p :: q ∧ p ∉ ([[42], [43], [63]] : List (List Nat))
def Fst (p : List Nat) : Prop := p.take 1 ∈ ([[34], [91], [40]] : List (List Nat))
theorem it_first : ∀ {n : Nat} {a : At}, ItA n a → ∃ p q, a.ps = p :: q ∧ Fst p := by
  intro n a h
  have : ∃ B, ItQ B a := by cases n <;> exact ⟨_, h⟩
  obtain ⟨B, s, hs, ⟨l, _, _, _, rfl⟩ | ⟨l, _, _, _, _, rfl⟩ | ⟨as, _, rfl⟩⟩ := this
  · exact ⟨_, _, rfl, by simp [Fst]⟩
  · exact ⟨_, _, rfl, by simp [Fst]⟩
  · exact ⟨_, _, rfl, by simp [Fst]⟩
theorem Fst.nosg {p : List Nat} (h : Fst p) : p ∉ ([[42], [43], [63]] : List (List Nat)) := by
  intro e
  unfold Fst at h
  simp at e
  rcases e with rfl | rfl | rfl <;> simp at h
theorem Follow.nosg {rest : List (List Nat)} (h : Follow rest) : NoSg rest := by
  rcases h with h | ⟨p, q, h, rfl | rfl⟩
  · exact .inl h
  · exact .inr ⟨_, _, h, by simp⟩
  · exact .inr ⟨_, _, h, by simp⟩
theorem nosg_items {n : Nat} {is : List At} {rest : List (List Nat)} (hA : ∀ a ∈ is, ItA n a) (hf : Follow rest) : NoSg ((is.map (·.ps)).flatten ++ rest) := by
  cases is with
  | nil => simpa using hf.nosg
  | cons a is =>
    obtain ⟨p, q, e, hp⟩ := it_first (hA a (by simp))
    refine .inr ⟨p, q ++ (is.map (·.ps)).flatten ++ rest, ?_, hp.nosg⟩
    simp [e]
theorem first_items {n : Nat} {is : List At} {ps rest : List (List Nat)} {i : Nat} (hA : ∀ a ∈ is, ItA n a) (hf : Follow rest) (hd : ps.drop i = (is.map (·.ps)).flatten ++ rest) : firstB ps i = decide (is ≠ []) := by
  cases is with
  | nil =>
    simp at hd
    unfold firstB
    rcases hf with h | ⟨p, q, h, hp⟩
    · rw [h] at hd
      rw [drop_end hd]; rfl
    · rw [h] at hd
      rw [drop_at hd]
      rcases hp with rfl | rfl <;> simp
  | cons a is =>
    obtain ⟨p, q, e, hp⟩ := it_first (hA a (by simp))
    have : ps[i]? = some p := drop_at (y := q ++ (is.map (·.ps)).flatten ++ rest) (by rw [hd]; simp [e])
    unfold firstB
    rw [this]
    simp only [ne_eq, reduceCtorEq, not_false_eq_true, decide_true, decide_eq_true_eq]
    exact hp
/-- a cell of the def and the reader, side by side -/
theorem rd_beside {μ : Sto} {r : Nat} {o o' x : O} (h : μ[r]? = some o) : (μ.set r o' ++ [x])[r]? = some o' ∧ (∀ y, (μ.set r o' ++ [x]).set μ.length y = μ.set r o' ++ [y]) ∧ (μ.set r o' ++ [x])[μ.length]? = some x ∧ ∀ o'', (μ.set r o' ++ [x]).set r o'' = μ.set r o'' ++ [x] := by
  have hl := lt_at h
  refine ⟨?_, fun y => ?_, ?_, fun o'' => ?_⟩
  · rw [List.getElem?_append_left (by simpa using hl), List.getElem?_set_self hl]
  · rw [new_set0 (by simp)]; rfl
  · rw [new_at0 (by simp)]; rfl
  · rw [old_set (by simpa using hl), List.set_set]
theorem leave_rd {μ : Sto} {r i j : Nat} {ps : List (List Nat)} {d : D} {l : Sto} (h : μ[r]? = some (rdO ps i)) (hd : NoRef d) : leave μ d (μ.set r (rdO ps j) ++ l) = (d, μ.set r (rdO ps j)) := by
  refine leave_app (by simp) (fun k o hk => ?_) ?_ (hd _)
  · by_cases e : k = r
    · subst e
      rw [List.getElem?_set_self (lt_at h)] at hk
      cases hk
      refine .inr ?_
      have := noref_strs ps μ.length
      simp [rdO, refsO, refsLts, refsLt, this]
    · rw [List.getElem?_set_ne (Ne.symm e)] at hk
      exact .inl hk
  · cases d with
    | ref k =>
      have := hd 0
      simp [refsLt] at this
    | _ => rfl
def RdI (m : Nat) : Prop := ∀ (n : Nat) (a : At) (μ : Sto) (r i : Nat) (ps rest : List (List Nat)) (depth : Nat) (Q : D → Sto → Prop), ItA n a → n < m → n + depth ≤ 4 → μ[r]? = some (rdO ps i) → ps.length ≤ 100000 → ps.drop i = a.ps ++ rest → NoSg rest →
  Q a.t (μ.set r (rdO ps (i + a.ps.length))) → wF (F_Reader_item m) [.ref r, .int (depth : Int)] μ Q
theorem flat_ge {n : Nat} : ∀ {is : List At}, (∀ a ∈ is, ItA n a) → is.length ≤ (is.map (·.ps)).flatten.length
  | [], _ => Nat.zero_le _
  | a :: is, h => by
    obtain ⟨p, q, e, _⟩ := it_first (h a (by simp))
    have := flat_ge (is := is) fun b hb => h b (by simp [hb])
    simp only [List.map_cons, List.flatten_cons, List.length_append, List.length_cons, e]
    omega
theorem branch_ok {m n : Nat} (hI : RdI m) {is : List At} {μ : Sto} {r i : Nat} {ps rest : List (List Nat)} {depth : Nat} {Q : D → Sto → Prop} (hne : is ≠ []) (hA : ∀ a ∈ is, ItA n a) (hnm : n < m) (hnd : n + depth ≤ 4) (hr : μ[r]? = some (rdO ps i)) (hps : ps.length ≤ 100000)
    (hd : ps.drop i = (bAt is).ps ++ rest) (hf : Follow rest) (hQ : Q (bAt is).t (μ.set r (rdO ps (i + (bAt is).ps.length)))) : wF (F_Reader_branch m) [.ref r, .int (depth : Int)] μ Q := by
  have hd' : ps.drop i = (is.map (·.ps)).flatten ++ rest := hd
  have hge := flat_ge hA
  have hlen : (is.map (·.ps)).flatten.length ≤ ps.length := by
    have := congrArg List.length hd'
    rw [List.length_drop, List.length_append] at this
    omega
  unfold F_Reader_branch
  rw [f_body]
  refine ⟨rfl, ?_⟩
  show wS _ [some (.ref r), some (.int (depth : Int)), none] μ _
  unfold m_Reader_branch
  obtain ⟨a0, is', rfl⟩ : ∃ a is', is = a :: is' := by
    cases is with
    | nil => exact absurd rfl hne
    | cons a is' => exact ⟨a, is', rfl⟩
  refine q_seq (fun Γ' μ' => Γ' = [some (.ref r), some (.int (depth : Int)), some (.ref μ.length)] ∧ μ' = μ.set r (rdO ps (i + a0.ps.length)) ++ [.lst [a0.t]]) ?_ ?_
  · simp only [w_bnd, w_ret, w_eC, w_var, w_opS, w_op, w_N, w_CB, w_CS, w_nil, w_cons, w_call, w_if, w_B, w_and, w_or, w_not, w_vAnd, w_vOr, w_vNot, w_neg, w_tup, w_lstF, w_lstC, w_chain, w_fld, w_sl, w_oN, w_oS, w_isLs, w_isSt, w_me, w_meth, w_methS, w_make, w_fmt, w_frz, w_isi, s_seq, s_next, s_set, s_asg, s_expr, s_ret, s_retN, s_if, s_cnt, s_brk, s_no, s_par, s_par3, s_tp, s_gsNil, s_gsCons, s_fld, s_fldT, s_sub, s_aug, s_fldA, s_augS, s_for, w_lc, w_src, w_srcL, w_srcT, w_srcS, w_srcR, w_rng1, wO_some, wO_none, List.getElem?_cons_zero, List.getElem?_cons_succ, List.set_cons_zero, List.set_cons_succ, fin_v, fin_lF, fin_lT]
    refine ⟨insP_ok' hr, ?_⟩
    refine hI n a0 μ r i ps ((is'.map (·.ps)).flatten ++ rest) depth _ (hA a0 (by simp)) hnm hnd hr hps (by rw [hd']; simp) (nosg_items (fun a ha => hA a (by simp [ha])) hf) ?_
    refine ⟨by simp, ?_, by first | trivial | rfl⟩
    simp
  rintro Γ' μ' ⟨rfl, rfl⟩
  refine q_seq (fun Γ' μ' => Γ' = [some (.ref r), some (.int (depth : Int)), some (.ref μ.length)] ∧ μ' = μ.set r (rdO ps (i + ((a0 :: is').map (·.ps)).flatten.length)) ++ [.lst ((a0 :: is').map (·.t))]) ?_ ?_
  · refine s_while (fun k Γ' μ' => ∃ j, 1 ≤ j ∧ j ≤ (a0 :: is').length ∧ k = (a0 :: is').length - j ∧ Γ' = [some (.ref r), some (.int (depth : Int)), some (.ref μ.length)] ∧ μ' = μ.set r (rdO ps (i + (((a0 :: is').take j).map (·.ps)).flatten.length)) ++ [.lst (((a0 :: is').take j).map (·.t))]) ?_ ?_
    · refine ⟨_, ?_, 1, Nat.le_refl _, by simp, rfl, rfl, by simp⟩
      show _ < 1000000
      omega
    rintro k Γ1 μ1 ⟨j, hj1, hj2, rfl, rfl, rfl⟩
    obtain ⟨c1, c2, c3, c4⟩ := rd_beside (o' := rdO ps (i + (((a0 :: is').take j).map (·.ps)).flatten.length)) (x := .lst (((a0 :: is').take j).map (·.t))) hr
    have hsplit : ((a0 :: is').map (·.ps)).flatten = (((a0 :: is').take j).map (·.ps)).flatten ++ (((a0 :: is').drop j).map (·.ps)).flatten := by
      rw [← List.flatten_append, ← List.map_append, List.take_append_drop]
    have hdj : ps.drop (i + (((a0 :: is').take j).map (·.ps)).flatten.length) = (((a0 :: is').drop j).map (·.ps)).flatten ++ rest := by
      rw [hsplit, List.append_assoc] at hd'
      exact drop_add hd'
    have hAj : ∀ a ∈ (a0 :: is').drop j, ItA n a := fun a ha => hA a (List.mem_of_mem_drop ha)
    simp only [w_bnd, w_ret, w_eC, w_var, w_opS, w_op, w_N, w_CB, w_CS, w_nil, w_cons, w_call, w_if, w_B, w_and, w_or, w_not, w_vAnd, w_vOr, w_vNot, w_neg, w_tup, w_lstF, w_lstC, w_chain, w_fld, w_sl, w_oN, w_oS, w_isLs, w_isSt, w_me, w_meth, w_methS, w_make, w_fmt, w_frz, w_isi, s_seq, s_next, s_set, s_asg, s_expr, s_ret, s_retN, s_if, s_cnt, s_brk, s_no, s_par, s_par3, s_tp, s_gsNil, s_gsCons, s_fld, s_fldT, s_sub, s_aug, s_fldA, s_augS, s_for, w_lc, w_src, w_srcL, w_srcT, w_srcS, w_srcR, w_rng1, wO_some, wO_none, List.getElem?_cons_zero, List.getElem?_cons_succ, List.set_cons_zero, List.set_cons_succ, fin_v, fin_lF, fin_lT]
    refine ⟨insP_ok' c1, begins_ok c1 ⟨_, rfl, ?_⟩⟩
    rw [first_items hAj hf hdj]
    by_cases hj : j < (a0 :: is').length
    · have hcons : (a0 :: is').drop j = (a0 :: is')[j] :: (a0 :: is').drop (j + 1) := List.drop_eq_getElem_cons hj
      rw [decide_eq_true (by rw [hcons]; simp), if_pos rfl]
      simp only [w_bnd, w_ret, w_eC, w_var, w_opS, w_op, w_N, w_CB, w_CS, w_nil, w_cons, w_call, w_if, w_B, w_and, w_or, w_not, w_vAnd, w_vOr, w_vNot, w_neg, w_tup, w_lstF, w_lstC, w_chain, w_fld, w_sl, w_oN, w_oS, w_isLs, w_isSt, w_me, w_meth, w_methS, w_make, w_fmt, w_frz, w_isi, s_seq, s_next, s_set, s_asg, s_expr, s_ret, s_retN, s_if, s_cnt, s_brk, s_no, s_par, s_par3, s_tp, s_gsNil, s_gsCons, s_fld, s_fldT, s_sub, s_aug, s_fldA, s_augS, s_for, w_lc, w_src, w_srcL, w_srcT, w_srcS, w_srcR, w_rng1, wO_some, wO_none, List.getElem?_cons_zero, List.getElem?_cons_succ, List.set_cons_zero, List.set_cons_succ, fin_v, fin_lF, fin_lT, l_ref c3]
      refine ⟨insP_ok' c1, ?_⟩
      refine hI n (a0 :: is')[j] _ r _ ps ((((a0 :: is').drop (j + 1)).map (·.ps)).flatten ++ rest) depth _ (hA _ (List.getElem_mem hj)) hnm hnd c1 hps (by rw [hdj, hcons]; simp) (nosg_items (fun a ha => hA a (List.mem_of_mem_drop ha)) hf) ?_
      rw [c4]
      obtain ⟨d1, d2, d3, d4⟩ := rd_beside (o' := rdO ps (i + (((a0 :: is').take j).map (·.ps)).flatten.length + (a0 :: is')[j].ps.length)) (x := .lst (((a0 :: is').take j).map (·.t))) hr
      rw [o_append d3 (by simp [big]; simp at hge hlen hj; omega), wO_some, d2]
      refine ⟨(a0 :: is').length - (j + 1), by omega, j + 1, by omega, hj, rfl, by first | trivial | rfl, ?_⟩
      have e1 : (((a0 :: is').take (j + 1)).map (·.ps)).flatten.length = (((a0 :: is').take j).map (·.ps)).flatten.length + (a0 :: is')[j].ps.length := by
        rw [take_snoc (List.getElem?_eq_getElem hj), List.map_append, List.flatten_append, List.length_append]
        simp
      have e2 : ((a0 :: is').take (j + 1)).map (·.t) = ((a0 :: is').take j).map (·.t) ++ [(a0 :: is')[j].t] := by
        rw [take_snoc (List.getElem?_eq_getElem hj), List.map_append]; rfl
      rw [e1, e2, Nat.add_assoc]
    · have hje : j = (a0 :: is').length := by omega
      have hnil : (a0 :: is').drop j = [] := List.drop_eq_nil_of_le (by omega)
      rw [hnil]
      simp only [ne_eq, not_true, decide_false, Bool.false_eq_true, if_false]
      refine ⟨by first | trivial | rfl, ?_⟩
      rw [hje, List.take_length]
  rintro Γ' μ' ⟨rfl, rfl⟩
  obtain ⟨c1, c2, c3, c4⟩ := rd_beside (o' := rdO ps (i + ((a0 :: is').map (·.ps)).flatten.length)) (x := .lst ((a0 :: is').map (·.t))) hr
  simp only [w_bnd, w_ret, w_eC, w_var, w_opS, w_op, w_N, w_CB, w_CS, w_nil, w_cons, w_call, w_if, w_B, w_and, w_or, w_not, w_vAnd, w_vOr, w_vNot, w_neg, w_tup, w_lstF, w_lstC, w_chain, w_fld, w_sl, w_oN, w_oS, w_isLs, w_isSt, w_me, w_meth, w_methS, w_make, w_fmt, w_frz, w_isi, s_seq, s_next, s_set, s_asg, s_expr, s_ret, s_retN, s_if, s_cnt, s_brk, s_no, s_par, s_par3, s_tp, s_gsNil, s_gsCons, s_fld, s_fldT, s_sub, s_aug, s_fldA, s_augS, s_for, w_lc, w_src, w_srcL, w_srcT, w_srcS, w_srcR, w_rng1, wO_some, wO_none, List.getElem?_cons_zero, List.getElem?_cons_succ, List.set_cons_zero, List.set_cons_succ, fin_v, fin_lF, fin_lT, frzD, c3, c2]
  refine ⟨by simp, ?_⟩
  rw [leave_rd (d := .tup [.str [97, 108, 108], .lst ((a0 :: is').map (·.t))]) hr (noref_all (norefs_map fun a ha => noref_t n a (hA a ha)))]
  exact hQ
end K01

set_option maxRecDepth 100000
set_option maxHeartbeats 1000000
namespace K01
open PySem L2 PyProof.Rows PySem.Spec Ab
def FollowB (rest : List (List Nat)) : Prop := rest = [] ∨ ∃ q, rest = [41] :: q
def tlB (as : List At) : List (List Nat) := (as.map fun b => [124] :: b.ps).flatten
theorem follow_tl {as : List At} {rest : List (List Nat)} (h : FollowB rest) : Follow (tlB as ++ rest) := by
  cases as with
  | nil =>
    rcases h with h | ⟨q, h⟩
    · exact .inl (by simpa [tlB] using h)
    · exact .inr ⟨[41], q, by simpa [tlB] using h, .inr rfl⟩
  | cons a as => exact .inr ⟨[124], a.ps ++ tlB as ++ rest, by simp [tlB], .inl rfl⟩
theorem here_tl {as : List At} {ps rest : List (List Nat)} {i : Nat} (h : FollowB rest) (hd : ps.drop i = tlB as ++ rest) : hereB ps i [[124]] = decide (as ≠ []) := by
  unfold hereB
  cases as with
  | nil =>
    rcases h with h | ⟨q, h⟩
    · rw [drop_end (by rw [hd, h]; rfl)]; rfl
    · rw [drop_at (x := [41]) (y := q) (by rw [hd, h]; rfl)]; rfl
  | cons a as =>
    rw [drop_at (x := [124]) (y := a.ps ++ tlB as ++ rest) (by rw [hd]; simp [tlB])]
    simp
theorem set_rd {μ : Sto} {r i : Nat} {ps : List (List Nat)} (h : μ[r]? = some (rdO ps i)) (j : Int) (k : Nat) (e : j = (k : Int)) : setF [(0, 1)] (.ref r) (.int j) μ = some (μ.set r (rdO ps k)) := by
  rw [o_setF h (by simp)]
  subst e
  rfl
theorem clsOf_self {x : D} {μ : Sto} : clsOf x μ = clsOf x μ := rfl
theorem branches_ok {m n : Nat} (hI : RdI m) {as : List At} {μ : Sto} {r i : Nat} {ps rest : List (List Nat)} {depth : Nat} {Q : D → Sto → Prop} (hB : BrQ (ItA n) as) (hnm : n < m) (hnd : n + depth ≤ 4) (hr : μ[r]? = some (rdO ps i)) (hps : ps.length ≤ 100000)
    (hd : ps.drop i = psB as ++ rest) (hf : FollowB rest) (hQ : Q (tOr (as.map (·.t))) (μ.set r (rdO ps (i + (psB as).length)))) : wF (F_Reader_branches m) [.ref r, .int (depth : Int)] μ Q := by
  obtain ⟨a0, as', rfl⟩ : ∃ a as', as = a :: as' := by
    cases as with
    | nil => exact absurd rfl hB.1
    | cons a as' => exact ⟨a, as', rfl⟩
  have hps' : psB (a0 :: as') = a0.ps ++ tlB as' := psB_cons a0 as'
  have hd0 : ps.drop i = a0.ps ++ (tlB as' ++ rest) := by rw [hd, hps', List.append_assoc]
  have hge : as'.length ≤ (tlB as').length := by
    have : ∀ bs : List At, bs.length ≤ (tlB bs).length := by
      intro bs
      induction bs with
      | nil => exact Nat.zero_le _
      | cons b bs ih =>
        have : tlB (b :: bs) = ([124] :: b.ps) ++ tlB bs := by simp [tlB]
        rw [this]
        simp only [List.length_append, List.length_cons]
        omega
    exact this as'
  have hlen : a0.ps.length + (tlB as').length ≤ ps.length := by
    have := congrArg List.length hd0
    rw [List.length_drop, List.length_append, List.length_append] at this
    omega
  unfold F_Reader_branches
  rw [f_body]
  refine ⟨rfl, ?_⟩
  show wS _ [some (.ref r), some (.int (depth : Int)), none] μ _
  unfold m_Reader_branches
  refine q_seq (fun Γ' μ' => Γ' = [some (.ref r), some (.int (depth : Int)), some (.ref μ.length)] ∧ μ' = μ.set r (rdO ps (i + a0.ps.length)) ++ [.lst [a0.t]]) ?_ ?_
  · obtain ⟨is, h1, h2, rfl⟩ := hB.2 a0 (by simp)
    simp only [w_bnd, w_ret, w_eC, w_var, w_opS, w_op, w_N, w_CB, w_CS, w_nil, w_cons, w_call, w_if, w_B, w_and, w_or, w_not, w_vAnd, w_vOr, w_vNot, w_neg, w_tup, w_lstF, w_lstC, w_chain, w_fld, w_sl, w_oN, w_oS, w_isLs, w_isSt, w_me, w_meth, w_methS, w_make, w_fmt, w_frz, w_isi, s_seq, s_next, s_set, s_asg, s_expr, s_ret, s_retN, s_if, s_cnt, s_brk, s_no, s_par, s_par3, s_tp, s_gsNil, s_gsCons, s_fld, s_fldT, s_sub, s_aug, s_fldA, s_augS, s_for, w_lc, w_src, w_srcL, w_srcT, w_srcS, w_srcR, w_rng1, wO_some, wO_none, List.getElem?_cons_zero, List.getElem?_cons_succ, List.set_cons_zero, List.set_cons_succ, fin_v, fin_lF, fin_lT]
    refine ⟨insP_ok' hr, branch_ok hI h1 h2 hnm hnd hr hps hd0 (follow_tl hf) ?_⟩
    refine ⟨by simp, ?_, by first | trivial | rfl⟩
    simp
  rintro Γ' μ' ⟨rfl, rfl⟩
  refine q_seq (fun Γ' μ' => Γ' = [some (.ref r), some (.int (depth : Int)), some (.ref μ.length)] ∧ μ' = μ.set r (rdO ps (i + (psB (a0 :: as')).length)) ++ [.lst ((a0 :: as').map (·.t))]) ?_ ?_
  · refine s_while (fun k Γ' μ' => ∃ j, j ≤ as'.length ∧ k = as'.length - j ∧ Γ' = [some (.ref r), some (.int (depth : Int)), some (.ref μ.length)] ∧ μ' = μ.set r (rdO ps (i + a0.ps.length + (tlB (as'.take j)).length)) ++ [.lst (a0.t :: (as'.take j).map (·.t))]) ?_ ?_
    · refine ⟨_, ?_, 0, Nat.zero_le _, rfl, rfl, by simp [tlB]⟩
      show _ < 1000000
      omega
    rintro k Γ1 μ1 ⟨j, hj2, rfl, rfl, rfl⟩
    obtain ⟨c1, c2, c3, c4⟩ := rd_beside (o' := rdO ps (i + a0.ps.length + (tlB (as'.take j)).length)) (x := .lst (a0.t :: (as'.take j).map (·.t))) hr
    have hsplit : tlB as' = tlB (as'.take j) ++ tlB (as'.drop j) := by
      unfold tlB
      rw [← List.flatten_append, ← List.map_append, List.take_append_drop]
    have hdj : ps.drop (i + a0.ps.length + (tlB (as'.take j)).length) = tlB (as'.drop j) ++ rest := by
      have h1 := drop_add hd0
      rw [hsplit, List.append_assoc] at h1
      exact drop_add h1
    simp only [w_bnd, w_ret, w_eC, w_var, w_opS, w_op, w_N, w_CB, w_CS, w_nil, w_cons, w_call, w_if, w_B, w_and, w_or, w_not, w_vAnd, w_vOr, w_vNot, w_neg, w_tup, w_lstF, w_lstC, w_chain, w_fld, w_sl, w_oN, w_oS, w_isLs, w_isSt, w_me, w_meth, w_methS, w_make, w_fmt, w_frz, w_isi, s_seq, s_next, s_set, s_asg, s_expr, s_ret, s_retN, s_if, s_cnt, s_brk, s_no, s_par, s_par3, s_tp, s_gsNil, s_gsCons, s_fld, s_fldT, s_sub, s_aug, s_fldA, s_augS, s_for, w_lc, w_src, w_srcL, w_srcT, w_srcS, w_srcR, w_rng1, wO_some, wO_none, List.getElem?_cons_zero, List.getElem?_cons_succ, List.set_cons_zero, List.set_cons_succ, fin_v, fin_lF, fin_lT]
    refine ⟨insP_ok' c1, is_here_ok (ss := [[124]]) c1 (by simp) ⟨_, rfl, ?_⟩⟩
    rw [here_tl hf hdj]
    by_cases hj : j < as'.length
    · have hcons : as'.drop j = as'[j] :: as'.drop (j + 1) := List.drop_eq_getElem_cons hj
      rw [decide_eq_true (by simp [hj]), if_pos rfl]
      have g1 : getF [(0, 1)] (.ref r) (μ.set r (rdO ps (i + a0.ps.length + (tlB (as'.take j)).length)) ++ [.lst (a0.t :: (as'.take j).map (·.t))]) = some (.int ((i + a0.ps.length + (tlB (as'.take j)).length : Nat) : Int)) := o_getF c1 rfl
      have hd1 : ps.drop (i + a0.ps.length + (tlB (as'.take j)).length + 1) = as'[j].ps ++ (tlB (as'.drop (j + 1)) ++ rest) := by
        have : ps.drop (i + a0.ps.length + (tlB (as'.take j)).length) = [[124]] ++ (as'[j].ps ++ (tlB (as'.drop (j + 1)) ++ rest)) := by
          rw [hdj, hcons]; simp only [tlB, List.map_cons, List.flatten_cons, List.cons_append, List.append_assoc, List.nil_append]
        exact drop_add this
      simp only [w_bnd, w_ret, w_eC, w_var, w_opS, w_op, w_N, w_CB, w_CS, w_nil, w_cons, w_call, w_if, w_B, w_and, w_or, w_not, w_vAnd, w_vOr, w_vNot, w_neg, w_tup, w_lstF, w_lstC, w_chain, w_fld, w_sl, w_oN, w_oS, w_isLs, w_isSt, w_me, w_meth, w_methS, w_make, w_fmt, w_frz, w_isi, s_seq, s_next, s_set, s_asg, s_expr, s_ret, s_retN, s_if, s_cnt, s_brk, s_no, s_par, s_par3, s_tp, s_gsNil, s_gsCons, s_fld, s_fldT, s_sub, s_aug, s_fldA, s_augS, s_for, w_lc, w_src, w_srcL, w_srcT, w_srcS, w_srcR, w_rng1, wO_some, wO_none, List.getElem?_cons_zero, List.getElem?_cons_succ, List.set_cons_zero, List.set_cons_succ, fin_v, fin_lF, fin_lT, g1, f_plusII]
      refine ⟨by first | trivial | rfl, ?_⟩
      rw [set_rd c1 _ (i + a0.ps.length + (tlB (as'.take j)).length + 1) (by omega), wO_some, c4]
      obtain ⟨d1, d2, d3, d4⟩ := rd_beside (o' := rdO ps (i + a0.ps.length + (tlB (as'.take j)).length + 1)) (x := .lst (a0.t :: (as'.take j).map (·.t))) hr
      rw [l_ref d3, wO_some]
      refine ⟨insP_ok' d1, ?_⟩
      obtain ⟨is, h1, h2, he⟩ := hB.2 as'[j] (by simp)
      refine branch_ok hI h1 h2 hnm hnd d1 hps (by rw [hd1, he]) (follow_tl hf) ?_
      rw [d4, ← he]
      obtain ⟨e1, e2, e3, e4⟩ := rd_beside (o' := rdO ps (i + a0.ps.length + (tlB (as'.take j)).length + 1 + as'[j].ps.length)) (x := .lst (a0.t :: (as'.take j).map (·.t))) hr
      rw [o_append e3 (by simp [big]; omega), wO_some, e2]
      refine ⟨as'.length - (j + 1), by omega, j + 1, hj, rfl, by first | trivial | rfl, ?_⟩
      have q1 : (tlB (as'.take (j + 1))).length = (tlB (as'.take j)).length + 1 + as'[j].ps.length := by
        rw [take_snoc (List.getElem?_eq_getElem hj)]
        unfold tlB
        rw [List.map_append, List.flatten_append, List.length_append]
        simp; omega
      have q2 : (as'.take (j + 1)).map (·.t) = (as'.take j).map (·.t) ++ [as'[j].t] := by
        rw [take_snoc (List.getElem?_eq_getElem hj), List.map_append]; rfl
      rw [q1, q2]
      simp only [List.cons_append]
      congr 3; omega
    · have hje : j = as'.length := by omega
      have hnil : as'.drop j = [] := List.drop_eq_nil_of_le (by omega)
      rw [hnil]
      simp only [ne_eq, not_true, decide_false, Bool.false_eq_true, if_false]
      refine ⟨by first | trivial | rfl, ?_⟩
      rw [hje, List.take_length, hps', List.length_append, Nat.add_assoc]
      rfl
  rintro Γ' μ' ⟨rfl, rfl⟩
  obtain ⟨c1, c2, c3, c4⟩ := rd_beside (o' := rdO ps (i + (psB (a0 :: as')).length)) (x := .lst ((a0 :: as').map (·.t))) hr
  simp only [w_bnd, w_ret, w_eC, w_var, w_opS, w_op, w_N, w_CB, w_CS, w_nil, w_cons, w_call, w_if, w_B, w_and, w_or, w_not, w_vAnd, w_vOr, w_vNot, w_neg, w_tup, w_lstF, w_lstC, w_chain, w_fld, w_sl, w_oN, w_oS, w_isLs, w_isSt, w_me, w_meth, w_methS, w_make, w_fmt, w_frz, w_isi, s_seq, s_next, s_set, s_asg, s_expr, s_ret, s_retN, s_if, s_cnt, s_brk, s_no, s_par, s_par3, s_tp, s_gsNil, s_gsCons, s_fld, s_fldT, s_sub, s_aug, s_fldA, s_augS, s_for, w_lc, w_src, w_srcL, w_srcT, w_srcS, w_srcR, w_rng1, wO_some, wO_none, List.getElem?_cons_zero, List.getElem?_cons_succ, List.set_cons_zero, List.set_cons_succ, fin_v, fin_lF, fin_lT, frzD, c3, c2]
  refine ⟨by simp, ?_⟩
  rw [leave_rd (d := .tup [.str [111, 114], .lst ((a0 :: as').map (·.t))]) hr (noref_or (norefs_map fun a ha => by
    obtain ⟨is, _, h2, rfl⟩ := hB.2 a ha
    exact noref_all (norefs_map fun i hi => noref_t n i (h2 i hi))))]
  exact hQ
end K01

set_option maxRecDepth 100000
set_option maxHeartbeats 1000000
namespace K01
open PySem L2 PyProof.Rows PySem.Spec Ab
theorem cut_in {p e : Nat} {l : List Nat} : cutL (p :: l ++ [e]) (some 1) (some (-1)) = l := by
  unfold cutL
  have hl : (p :: l ++ [e]).length = l.length + 2 := by simp
  have e1 : HT.sIx (l.length + 2) (l.length + 2) (some (-1)) = l.length + 1 := by
    show (if (-1 : Int) < 0 then ((-1 : Int) + ((l.length + 2 : Nat) : Int)).toNat else min (-1 : Int).toNat (l.length + 2)) = _
    rw [if_pos (by decide)]
    omega
  have e0 : HT.sIx (l.length + 2) 0 (some 1) = 1 := by
    show min 1 (l.length + 2) = 1
    omega
  rw [hl, e1, e0]
  simp
theorem one_chars {μ : Sto} {l : List Nat} {x0 x1 x2 x3 : Option D} {Q : List D × Sto → Prop} (hl : l.length ≤ 100) (hQ : Q (l.map fun c => tOne [c], μ)) :
    wO (lcLoop (.fix (l.map fun c => .str [c])) (.nm 4) mYes (eTup (aCons (eC (.str [111, 110, 101])) (aCons (eLstF (aCons (eVar 4) aNil)) aNil))) [x0, x1, x2, x3, none] (Src.fuel μ (.fix (l.map fun c => .str [c]))) 0 [] μ) Q := by
  refine lc_map (fun d => .tup [.str [111, 110, 101], .lst [d]]) (fun d hd => ?_) (by simp [big]; omega) ?_
  · refine ⟨_, rfl, fun Q' hq => ?_⟩
    show wM _ [x0, x1, x2, x3, some d] μ Q'
    simp only [w_bnd, w_ret, w_eC, w_var, w_opS, w_op, w_N, w_CB, w_CS, w_nil, w_cons, w_call, w_if, w_B, w_and, w_or, w_not, w_vAnd, w_vOr, w_vNot, w_neg, w_tup, w_lstF, w_lstC, w_chain, w_fld, w_sl, w_oN, w_oS, w_isLs, w_isSt, w_me, w_meth, w_methS, w_make, w_fmt, w_frz, w_isi, s_seq, s_next, s_set, s_asg, s_expr, s_ret, s_retN, s_if, s_cnt, s_brk, s_no, s_par, s_par3, s_tp, s_gsNil, s_gsCons, s_fld, s_fldT, s_sub, s_aug, s_fldA, s_augS, s_for, w_lc, w_src, w_srcL, w_srcT, w_srcS, w_srcR, w_rng1, wO_some, wO_none, List.getElem?_cons_zero, List.getElem?_cons_succ, List.set_cons_zero, List.set_cons_succ, fin_v, fin_lF, fin_lT]
    exact ⟨by simp, by simp, hq⟩
  · rw [List.map_map]
    exact hQ
noncomputable def tailS : SM := (sSeq (sIf (mB (eMethS 0 F_Reader_is_here (eVar 0) (eC (.tup (([[42], [43], [63]] : List (List Nat)).map .str))))) (sSeq (sAsg (eTup (aCons (eOp gIx (eFld [(0, 0)] (eVar 0)) (eFld [(0, 1)] (eVar 0))) (aCons (eLstF (aCons (eVar 3) aNil)) aNil))) (sSet 3))
    (sFldA [(0, 1)] fPlusI (eVar 0) (eC (.int 1)))) sNext)
    (sRet (eVar 3)))
/-- the sign behind an item -/
theorem tail_ok {μ : Sto} {r i j : Nat} {ps rest : List (List Nat)} {s : List Nat} {t : D} {x1 x2 x4 : Option D} {Q : D → Sto → Prop} {b c : Env' → Sto → Prop} (hs : IsSg s) (hr0 : μ[r]? = some (rdO ps i)) (hd : ps.drop j = sgP s ++ rest) (hn : NoSg rest) (ht : NoRef t)
    (hQ : Q (sgT s t) (μ.set r (rdO ps (j + (sgP s).length)))) :
    wS tailS [some (.ref r), x1, x2, some t, x4] (μ.set r (rdO ps j)) { n := fun _ μ1 => Q (leave μ .non μ1).1 (leave μ .non μ1).2, r := fun d μ1 => Q (leave μ d μ1).1 (leave μ d μ1).2, b := b, c := c } := by
  have hr : (μ.set r (rdO ps j))[r]? = some (rdO ps j) := set_at (lt_at hr0)
  have lv : ∀ (k : Nat) (d : D), NoRef d → leave μ d (μ.set r (rdO ps k)) = (d, μ.set r (rdO ps k)) := fun k d hd => by
    have := leave_rd (l := []) (j := k) hr0 hd
    simpa using this
  unfold tailS
  simp only [w_bnd, w_ret, w_eC, w_var, w_opS, w_op, w_N, w_CB, w_CS, w_nil, w_cons, w_call, w_if, w_B, w_and, w_or, w_not, w_vAnd, w_vOr, w_vNot, w_neg, w_tup, w_lstF, w_lstC, w_chain, w_fld, w_sl, w_oN, w_oS, w_isLs, w_isSt, w_me, w_meth, w_methS, w_make, w_fmt, w_frz, w_isi, s_seq, s_next, s_set, s_asg, s_expr, s_ret, s_retN, s_if, s_cnt, s_brk, s_no, s_par, s_par3, s_tp, s_gsNil, s_gsCons, s_fld, s_fldT, s_sub, s_aug, s_fldA, s_augS, s_for, w_lc, w_src, w_srcL, w_srcT, w_srcS, w_srcR, w_rng1, wO_some, wO_none, List.getElem?_cons_zero, List.getElem?_cons_succ, List.set_cons_zero, List.set_cons_succ, fin_v, fin_lF, fin_lT]
  refine ⟨insP_ok' hr, _, rfl, ?_⟩
  refine is_here_ok (ss := [[42], [43], [63]]) hr (by simp) ⟨_, rfl, ?_⟩
  by_cases hse : s = []
  · subst hse
    have : hereB ps j [[42], [43], [63]] = false := by
      unfold hereB
      rcases hn with h | ⟨p, q, h, hp⟩
      · rw [drop_end (by rw [hd, h]; rfl)]
      · rw [drop_at (x := p) (y := q) (by rw [hd, h]; rfl)]
        exact decide_eq_false hp
    rw [this]
    simp only [Bool.false_eq_true, if_false]
    rw [lv j t ht]
    simpa [sgT, sgP] using hQ
  · have hs' : s ∈ ([[42], [43], [63]] : List (List Nat)) := by
      unfold IsSg at hs
      simp [hse] at hs
      simpa using hs
    have hp1 : sgP s = [s] := by
      simp at hs'
      rcases hs' with rfl | rfl | rfl <;> rfl
    rw [hp1] at hd hQ
    have hat : ps[j]? = some s := drop_at (y := rest) (by rw [hd]; rfl)
    have : hereB ps j [[42], [43], [63]] = true := by
      unfold hereB
      rw [hat]
      exact decide_eq_true hs'
    rw [this]
    have g0 : getF [(0, 0)] (.ref r) (μ.set r (rdO ps j)) = some (.lst (psS ps)) := o_getF hr rfl
    have g1 : getF [(0, 1)] (.ref r) (μ.set r (rdO ps j)) = some (.int (j : Int)) := o_getF hr rfl
    simp only [if_true, g0, g1, wO_some, o_ixL (ps_at hat)]
    refine ⟨by simp, by simp, ?_⟩
    simp only [f_plusII, wO_some]
    refine ⟨by first | trivial | rfl, ?_⟩
    rw [set_rd hr _ (j + 1) (by omega), wO_some, List.set_set]
    have ht2 : NoRef (.tup [.str s, .lst [t]]) := fun n => by simp [refsLt, refsLts, ht n]
    rw [lv (j + 1) _ ht2]
    have : sgT s t = .tup [.str s, .lst [t]] := by simp [sgT, hse]
    rw [← this]
    exact hQ
theorem item_read {m : Nat} (hI : RdI m) : RdI (m + 1) := by
  intro n a μ r i ps rest depth Q hA hnm hnd hr hps hd hn hQ
  obtain ⟨B, hIt, hBB⟩ : ∃ B, ItQ B a ∧ ∀ as, B as → n ≠ 0 ∧ BrQ (ItA (n - 1)) as := by
    cases n with
    | zero => exact ⟨_, hA, fun _ h => h.elim⟩
    | succ n => exact ⟨_, hA, fun as h => ⟨by omega, h⟩⟩
  obtain ⟨p, q, hpq, hfst⟩ := it_first hA
  have hat : ps[i]? = some p := drop_at (y := q ++ rest) (by rw [hd, hpq]; rfl)
  have hfb : firstB ps i = true := by
    unfold firstB; rw [hat]; exact decide_eq_true hfst
  show wF (body 5 2 (m_Reader_item F_Reader_begins_item F_Reader_is_here (F_Reader_branches m))) _ μ Q
  rw [f_body]
  refine ⟨rfl, ?_⟩
  show wS _ [some (.ref r), some (.int (depth : Int)), none, none, none] μ _
  have g0 : getF [(0, 0)] (.ref r) μ = some (.lst (psS ps)) := o_getF hr rfl
  have g1 : getF [(0, 1)] (.ref r) μ = some (.int (i : Int)) := o_getF hr rfl
  have hset := set_rd hr ((i : Int) + 1) (i + 1) (by omega)
  have hr1 : (μ.set r (rdO ps (i + 1)))[r]? = some (rdO ps (i + 1)) := set_at (lt_at hr)
  unfold m_Reader_item
  refine q_seq (fun Γ' μ' => Γ' = [some (.ref r), some (.int (depth : Int)), none, none, none] ∧ μ' = μ) ?_ ?_
  · simp only [w_bnd, w_ret, w_eC, w_var, w_opS, w_op, w_N, w_CB, w_CS, w_nil, w_cons, w_call, w_if, w_B, w_and, w_or, w_not, w_vAnd, w_vOr, w_vNot, w_neg, w_tup, w_lstF, w_lstC, w_chain, w_fld, w_sl, w_oN, w_oS, w_isLs, w_isSt, w_me, w_meth, w_methS, w_make, w_fmt, w_frz, w_isi, s_seq, s_next, s_set, s_asg, s_expr, s_ret, s_retN, s_if, s_cnt, s_brk, s_no, s_par, s_par3, s_tp, s_gsNil, s_gsCons, s_fld, s_fldT, s_sub, s_aug, s_fldA, s_augS, s_for, w_lc, w_src, w_srcL, w_srcT, w_srcS, w_srcR, w_rng1, wO_some, wO_none, List.getElem?_cons_zero, List.getElem?_cons_succ, List.set_cons_zero, List.set_cons_succ, fin_v, fin_lF, fin_lT]
    refine ⟨insP_ok' hr, begins_ok hr ⟨_, rfl, ?_⟩⟩
    rw [hfb]
    simp only [Bool.not_true, Bool.false_eq_true, if_false]
    refine ⟨insP_ok' hr, is_here_ok (ss := [[40]]) hr (by simp) ⟨_, rfl, ?_⟩⟩
    cases hh : hereB ps i [[40]] with
    | false =>
      simp only [Bool.false_eq_true, if_false]
      exact ⟨by first | trivial | rfl, by first | trivial | rfl⟩
    | true =>
      have hp40 : p = [40] := by
        unfold hereB at hh
        rw [hat] at hh
        simpa using hh
      have hd4 : (depth : Int) ≠ 4 := by
        obtain ⟨s, hs, ⟨l, _, _, _, rfl⟩ | ⟨l, _, _, _, _, rfl⟩ | ⟨as, hb, rfl⟩⟩ := hIt
        · rw [hp40] at hpq; simp at hpq
        · rw [hp40] at hpq; simp at hpq
        · have := (hBB as hb).1
          omega
      simp only [if_true, o_eqI, wO_some, fin_v]
      refine ⟨_, rfl, ?_⟩
      simp only [hd4, decide_false, Bool.false_eq_true, if_false]
      exact ⟨by first | trivial | rfl, by first | trivial | rfl⟩
  rintro Γ' μ' ⟨rfl, rfl⟩
  refine q_seq (fun Γ' μ1 => Γ' = [some (.ref r), some (.int (depth : Int)), some (.str p), none, none] ∧ μ1 = μ') ?_ ?_
  · simp only [w_bnd, w_ret, w_eC, w_var, w_opS, w_op, w_N, w_CB, w_CS, w_nil, w_cons, w_call, w_if, w_B, w_and, w_or, w_not, w_vAnd, w_vOr, w_vNot, w_neg, w_tup, w_lstF, w_lstC, w_chain, w_fld, w_sl, w_oN, w_oS, w_isLs, w_isSt, w_me, w_meth, w_methS, w_make, w_fmt, w_frz, w_isi, s_seq, s_next, s_set, s_asg, s_expr, s_ret, s_retN, s_if, s_cnt, s_brk, s_no, s_par, s_par3, s_tp, s_gsNil, s_gsCons, s_fld, s_fldT, s_sub, s_aug, s_fldA, s_augS, s_for, w_lc, w_src, w_srcL, w_srcT, w_srcS, w_srcR, w_rng1, wO_some, wO_none, List.getElem?_cons_zero, List.getElem?_cons_succ, List.set_cons_zero, List.set_cons_succ, fin_v, fin_lF, fin_lT, g0, g1, o_ixL (ps_at hat)]
    exact ⟨by first | trivial | rfl, by first | trivial | rfl⟩
  rintro Γ' μ1 ⟨rfl, rfl⟩
  refine q_seq (fun Γ' μ2 => Γ' = [some (.ref r), some (.int (depth : Int)), some (.str p), none, none] ∧ μ2 = μ1.set r (rdO ps (i + 1))) ?_ ?_
  · simp only [w_bnd, w_ret, w_eC, w_var, w_opS, w_op, w_N, w_CB, w_CS, w_nil, w_cons, w_call, w_if, w_B, w_and, w_or, w_not, w_vAnd, w_vOr, w_vNot, w_neg, w_tup, w_lstF, w_lstC, w_chain, w_fld, w_sl, w_oN, w_oS, w_isLs, w_isSt, w_me, w_meth, w_methS, w_make, w_fmt, w_frz, w_isi, s_seq, s_next, s_set, s_asg, s_expr, s_ret, s_retN, s_if, s_cnt, s_brk, s_no, s_par, s_par3, s_tp, s_gsNil, s_gsCons, s_fld, s_fldT, s_sub, s_aug, s_fldA, s_augS, s_for, w_lc, w_src, w_srcL, w_srcT, w_srcS, w_srcR, w_rng1, wO_some, wO_none, List.getElem?_cons_zero, List.getElem?_cons_succ, List.set_cons_zero, List.set_cons_succ, fin_v, fin_lF, fin_lT, g1, f_plusII]
    refine ⟨by first | trivial | rfl, ?_⟩
    rw [hset, wO_some]
    exact ⟨by first | trivial | rfl, by first | trivial | rfl⟩
  rintro Γ' μ2 ⟨rfl, rfl⟩
  obtain ⟨s, hs, ⟨l, h1, h6, hL, rfl⟩ | ⟨l, h1, h8, hAs, hL, rfl⟩ | ⟨as, hb, rfl⟩⟩ := hIt
  · -- a text
    simp only [List.cons.injEq] at hpq
    obtain ⟨rfl, rfl⟩ := hpq
    refine q_seq (fun Γ' μ3 => ∃ x4, Γ' = [some (.ref r), some (.int (depth : Int)), some (.str (34 :: l ++ [34])), some (tAll (l.map fun c => tOne [c])), x4] ∧ μ3 = μ1.set r (rdO ps (i + 1))) ?_ ?_
    · have e1 : gEq false (.str (34 :: l ++ [34])) (.str [40]) (μ1.set r (rdO ps (i + 1))) = some (.v (.bl false)) := by
        rw [o_eqS]; simp
      have e2 : gIx (.str (34 :: l ++ [34])) (.int 0) (μ1.set r (rdO ps (i + 1))) = some (.str [34], μ1.set r (rdO ps (i + 1))) := o_ixS (i := 0) rfl
      have e3 : gEq false (.str [34]) (.str [91]) (μ1.set r (rdO ps (i + 1))) = some (.v (.bl false)) := rfl
      have e4 : gSl (.str (34 :: l ++ [34])) (some 1) (some (-1)) (μ1.set r (rdO ps (i + 1))) = some (.v (.str l)) := by
        simp only [gSl]; rw [cut_in]
      simp only [w_bnd, w_ret, w_eC, w_var, w_opS, w_op, w_N, w_CB, w_CS, w_nil, w_cons, w_call, w_if, w_B, w_and, w_or, w_not, w_vAnd, w_vOr, w_vNot, w_neg, w_tup, w_lstF, w_lstC, w_chain, w_fld, w_sl, w_oN, w_oS, w_isLs, w_isSt, w_me, w_meth, w_methS, w_make, w_fmt, w_frz, w_isi, s_seq, s_next, s_set, s_asg, s_expr, s_ret, s_retN, s_if, s_cnt, s_brk, s_no, s_par, s_par3, s_tp, s_gsNil, s_gsCons, s_fld, s_fldT, s_sub, s_aug, s_fldA, s_augS, s_for, w_lc, w_src, w_srcL, w_srcT, w_srcS, w_srcR, w_rng1, wO_some, wO_none, List.getElem?_cons_zero, List.getElem?_cons_succ, List.set_cons_zero, List.set_cons_succ, fin_v, fin_lF, fin_lT, e1]
      refine ⟨_, rfl, ?_⟩
      simp only [Bool.false_eq_true, if_false, e2, wO_some, e3, fin_v]
      refine ⟨_, rfl, ?_⟩
      simp only [Bool.false_eq_true, if_false]
      refine ⟨_, rfl, _, rfl, _, rfl, ?_⟩
      rw [e4, wO_some, fin_v, w_srcS]
      refine one_chars (by omega) ?_
      exact ⟨by simp, none, rfl, rfl⟩
    rintro Γ' μ3 ⟨x4, rfl, rfl⟩
    refine tail_ok hs hr (rest := rest) (i := i) (j := i + 1) (by
      have : ps.drop i = [34 :: l ++ [34]] ++ (sgP s ++ rest) := by rw [hd]; simp
      exact drop_add this) hn (noref_all (norefs_map fun _ _ => noref_one _)) ?_
    have : i + 1 + (sgP s).length = i + ((34 :: l ++ [34]) :: sgP s).length := by simp; omega
    rw [this]
    exact hQ
  · -- a bracket
    simp only [List.cons.injEq] at hpq
    obtain ⟨rfl, rfl⟩ := hpq
    refine q_seq (fun Γ' μ3 => ∃ x4, Γ' = [some (.ref r), some (.int (depth : Int)), some (.str (91 :: l ++ [93])), some (tOne l), x4] ∧ μ3 = μ1.set r (rdO ps (i + 1))) ?_ ?_
    · have e1 : gEq false (.str (91 :: l ++ [93])) (.str [40]) (μ1.set r (rdO ps (i + 1))) = some (.v (.bl false)) := by
        rw [o_eqS]; simp
      have e2 : gIx (.str (91 :: l ++ [93])) (.int 0) (μ1.set r (rdO ps (i + 1))) = some (.str [91], μ1.set r (rdO ps (i + 1))) := o_ixS (i := 0) rfl
      have e3 : gEq false (.str [91]) (.str [91]) (μ1.set r (rdO ps (i + 1))) = some (.v (.bl true)) := rfl
      have e4 : gSl (.str (91 :: l ++ [93])) (some 1) (some (-1)) (μ1.set r (rdO ps (i + 1))) = some (.v (.str l)) := by
        simp only [gSl]; rw [cut_in]
      simp only [w_bnd, w_ret, w_eC, w_var, w_opS, w_op, w_N, w_CB, w_CS, w_nil, w_cons, w_call, w_if, w_B, w_and, w_or, w_not, w_vAnd, w_vOr, w_vNot, w_neg, w_tup, w_lstF, w_lstC, w_chain, w_fld, w_sl, w_oN, w_oS, w_isLs, w_isSt, w_me, w_meth, w_methS, w_make, w_fmt, w_frz, w_isi, s_seq, s_next, s_set, s_asg, s_expr, s_ret, s_retN, s_if, s_cnt, s_brk, s_no, s_par, s_par3, s_tp, s_gsNil, s_gsCons, s_fld, s_fldT, s_sub, s_aug, s_fldA, s_augS, s_for, w_lc, w_src, w_srcL, w_srcT, w_srcS, w_srcR, w_rng1, wO_some, wO_none, List.getElem?_cons_zero, List.getElem?_cons_succ, List.set_cons_zero, List.set_cons_succ, fin_v, fin_lF, fin_lT, e1]
      refine ⟨_, rfl, ?_⟩
      simp only [Bool.false_eq_true, if_false, e2, wO_some, e3, fin_v]
      refine ⟨_, rfl, ?_⟩
      simp only [if_true]
      refine ⟨_, rfl, _, rfl, _, rfl, ?_⟩
      rw [e4, wO_some, fin_v]
      exact ⟨by simp, by simp, none, rfl, rfl⟩
    rintro Γ' μ3 ⟨x4, rfl, rfl⟩
    refine tail_ok hs hr (rest := rest) (i := i) (j := i + 1) (by
      have : ps.drop i = [91 :: l ++ [93]] ++ (sgP s ++ rest) := by rw [hd]; simp
      exact drop_add this) hn (noref_one _) ?_
    have : i + 1 + (sgP s).length = i + ((91 :: l ++ [93]) :: sgP s).length := by simp; omega
    rw [this]
    exact hQ
  · -- a group
    simp only [List.cons.injEq] at hpq
    obtain ⟨rfl, rfl⟩ := hpq
    obtain ⟨hn0, hBr⟩ := hBB as hb
    have hd1 : ps.drop (i + 1) = psB as ++ ([41] :: (sgP s ++ rest)) := by
      have : ps.drop i = [[40]] ++ (psB as ++ ([41] :: (sgP s ++ rest))) := by rw [hd]; simp
      exact drop_add this
    have hd2 : ps.drop (i + 1 + (psB as).length) = [41] :: (sgP s ++ rest) := drop_add hd1
    have hd3 : ps.drop (i + 1 + (psB as).length + 1) = sgP s ++ rest := by
      have : ps.drop (i + 1 + (psB as).length) = [[41]] ++ (sgP s ++ rest) := hd2
      exact drop_add this
    have hr2 : (μ1.set r (rdO ps (i + 1 + (psB as).length)))[r]? = some (rdO ps (i + 1 + (psB as).length)) := set_at (lt_at hr)
    have hnt : NoRef (tOr (as.map (·.t))) := noref_or (norefs_map fun a ha => by
      obtain ⟨is, _, h2, rfl⟩ := hBr.2 a ha
      exact noref_all (norefs_map fun i hi => noref_t _ i (h2 i hi)))
    refine q_seq (fun Γ' μ3 => ∃ x4, Γ' = [some (.ref r), some (.int (depth : Int)), some (.str [40]), some (tOr (as.map (·.t))), x4] ∧ μ3 = μ1.set r (rdO ps (i + 1 + (psB as).length + 1))) ?_ ?_
    · have e1 : gEq false (.str [40]) (.str [40]) (μ1.set r (rdO ps (i + 1))) = some (.v (.bl true)) := rfl
      simp only [w_bnd, w_ret, w_eC, w_var, w_opS, w_op, w_N, w_CB, w_CS, w_nil, w_cons, w_call, w_if, w_B, w_and, w_or, w_not, w_vAnd, w_vOr, w_vNot, w_neg, w_tup, w_lstF, w_lstC, w_chain, w_fld, w_sl, w_oN, w_oS, w_isLs, w_isSt, w_me, w_meth, w_methS, w_make, w_fmt, w_frz, w_isi, s_seq, s_next, s_set, s_asg, s_expr, s_ret, s_retN, s_if, s_cnt, s_brk, s_no, s_par, s_par3, s_tp, s_gsNil, s_gsCons, s_fld, s_fldT, s_sub, s_aug, s_fldA, s_augS, s_for, w_lc, w_src, w_srcL, w_srcT, w_srcS, w_srcR, w_rng1, wO_some, wO_none, List.getElem?_cons_zero, List.getElem?_cons_succ, List.set_cons_zero, List.set_cons_succ, fin_v, fin_lF, fin_lT, e1]
      refine ⟨_, rfl, ?_⟩
      simp only [if_true, o_add, wO_some, fin_v]
      refine ⟨insP_ok' hr1, ?_⟩
      have ed : ((depth : Int) + 1) = ((depth + 1 : Nat) : Int) := by omega
      rw [ed]
      refine branches_ok hI hBr (by omega) (by omega) hr1 hps hd1 (.inr ⟨_, rfl⟩) ?_
      rw [List.set_set]
      refine ⟨insP_ok' hr2, is_here_ok (ss := [[41]]) hr2 (by simp) ⟨_, rfl, ?_⟩⟩
      have hh : hereB ps (i + 1 + (psB as).length) [[41]] = true := by
        unfold hereB
        rw [drop_at hd2]
        simp
      rw [hh]
      have g2 : getF [(0, 1)] (.ref r) (μ1.set r (rdO ps (i + 1 + (psB as).length))) = some (.int ((i + 1 + (psB as).length : Nat) : Int)) := o_getF hr2 rfl
      simp only [Bool.not_true, Bool.false_eq_true, if_false, g2, wO_some, f_plusII]
      refine ⟨by first | trivial | rfl, ?_⟩
      rw [set_rd hr2 _ (i + 1 + (psB as).length + 1) (by omega), wO_some, List.set_set]
      exact ⟨none, by first | trivial | rfl, by first | trivial | rfl⟩
    rintro Γ' μ3 ⟨x4, rfl, rfl⟩
    refine tail_ok hs hr (rest := rest) (i := i) (j := i + 1 + (psB as).length + 1) hd3 hn hnt ?_
    have : i + 1 + (psB as).length + 1 + (sgP s).length = i + ([40] :: (psB as ++ [41] :: sgP s)).length := by simp; omega
    rw [this]
    exact hQ
theorem rd_all : ∀ m, RdI m
  | 0 => fun n a μ r i ps rest depth Q _ h => absurd h (Nat.not_lt_zero _)
  | m + 1 => item_read (rd_all m)
/-- the whole pattern -/
theorem whole_ok {n : Nat} {as : List At} {μ : Sto} {r : Nat} {Q : D → Sto → Prop} (hB : BrQ (ItA n) as) (hn : n ≤ 4) (hr : μ[r]? = some (rdO (psB as) 0)) (hps : (psB as).length ≤ 100000) (hQ : Q (tOr (as.map (·.t))) (μ.set r (rdO (psB as) (psB as).length))) : wF F_Reader_whole [.ref r] μ Q := by
  unfold F_Reader_whole
  rw [f_body]
  refine ⟨rfl, ?_⟩
  show wS _ [some (.ref r), none] μ _
  unfold m_Reader_whole
  have hr2 : (μ.set r (rdO (psB as) (psB as).length))[r]? = some (rdO (psB as) (psB as).length) := set_at (lt_at hr)
  have hnt : NoRef (tOr (as.map (·.t))) := noref_or (norefs_map fun a ha => by
    obtain ⟨is, _, h2, rfl⟩ := hB.2 a ha
    exact noref_all (norefs_map fun i hi => noref_t _ i (h2 i hi)))
  simp only [w_bnd, w_ret, w_eC, w_var, w_opS, w_op, w_N, w_CB, w_CS, w_nil, w_cons, w_call, w_if, w_B, w_and, w_or, w_not, w_vAnd, w_vOr, w_vNot, w_neg, w_tup, w_lstF, w_lstC, w_chain, w_fld, w_sl, w_oN, w_oS, w_isLs, w_isSt, w_me, w_meth, w_methS, w_make, w_fmt, w_frz, w_isi, s_seq, s_next, s_set, s_asg, s_expr, s_ret, s_retN, s_if, s_cnt, s_brk, s_no, s_par, s_par3, s_tp, s_gsNil, s_gsCons, s_fld, s_fldT, s_sub, s_aug, s_fldA, s_augS, s_for, w_lc, w_src, w_srcL, w_srcT, w_srcS, w_srcR, w_rng1, wO_some, wO_none, List.getElem?_cons_zero, List.getElem?_cons_succ, List.set_cons_zero, List.set_cons_succ, fin_v, fin_lF, fin_lT]
  refine ⟨insP_ok' hr, ?_⟩
  refine branches_ok (depth := 0) (rest := []) (rd_all 6) hB (by omega) (by omega) hr hps (by simp) (.inl rfl) ?_
  rw [Nat.zero_add]
  have g0 : getF [(0, 0)] (.ref r) (μ.set r (rdO (psB as) (psB as).length)) = some (.lst (psS (psB as))) := o_getF hr2 rfl
  have g1 : getF [(0, 1)] (.ref r) (μ.set r (rdO (psB as) (psB as).length)) = some (.int ((psB as).length : Int)) := o_getF hr2 rfl
  simp only [w_bnd, w_ret, w_eC, w_var, w_opS, w_op, w_N, w_CB, w_CS, w_nil, w_cons, w_call, w_if, w_B, w_and, w_or, w_not, w_vAnd, w_vOr, w_vNot, w_neg, w_tup, w_lstF, w_lstC, w_chain, w_fld, w_sl, w_oN, w_oS, w_isLs, w_isSt, w_me, w_meth, w_methS, w_make, w_fmt, w_frz, w_isi, s_seq, s_next, s_set, s_asg, s_expr, s_ret, s_retN, s_if, s_cnt, s_brk, s_no, s_par, s_par3, s_tp, s_gsNil, s_gsCons, s_fld, s_fldT, s_sub, s_aug, s_fldA, s_augS, s_for, w_lc, w_src, w_srcL, w_srcT, w_srcS, w_srcR, w_rng1, wO_some, wO_none, List.getElem?_cons_zero, List.getElem?_cons_succ, List.set_cons_zero, List.set_cons_succ, fin_v, fin_lF, fin_lT, g0, g1, o_lenL, o_lt, psS_len]
  refine ⟨_, rfl, ?_⟩
  rw [decide_eq_false (by omega)]
  simp only [Bool.false_eq_true, if_false]
  have := leave_rd (l := []) (j := (psB as).length) hr hnt
  rw [List.append_nil] at this
  rw [this]
  exact hQ
end K01

set_option maxRecDepth 100000
set_option maxHeartbeats 1000000
namespace K01
open PySem L2 PyProof.Rows PySem.Spec Ab
/-! ### places -/
def plO (a b : Nat) : O := .ins 1 [.ref a, .ref b]
structure Pl (μ : Sto) (q a b : Nat) (ls : List (List Nat)) (fs : List Int) : Prop where
  hq : μ[q]? = some (plO a b)
  ha : μ[a]? = some (.lst (psS ls))
  hb : μ[b]? = some (.lst (fs.map .int))
  ab : a ≠ b
  qa : q ≠ a
  qb : q ≠ b
  len : ls.length = fs.length
theorem Pl.setB {μ : Sto} {q a b : Nat} {ls : List (List Nat)} {fs fs' : List Int} (h : Pl μ q a b ls fs) (hl : fs'.length = fs.length) : Pl (μ.set b (.lst (fs'.map .int))) q a b ls fs' :=
  ⟨by rw [List.getElem?_set_ne (Ne.symm h.qb)]; exact h.hq, by rw [List.getElem?_set_ne (Ne.symm h.ab)]; exact h.ha, set_at (lt_at h.hb), h.ab, h.qa, h.qb, by rw [h.len, hl]⟩
theorem Pl.up {μ : Sto} {q a b : Nat} {ls : List (List Nat)} {fs : List Int} (h : Pl μ q a b ls fs) : Up a b μ μ := ⟨_, _, (self2 h.ha h.hb).symm⟩
theorem link_ok {μ : Sto} {q a b : Nat} {ls : List (List Nat)} {fs : List Int} {x y : Int} {Q : D → Sto → Prop} (h : Pl μ q a b ls fs) (hl : fs.length ≤ 1000) (hQ : ∀ fs' μ', Pl μ' q a b ls fs' → Up a b μ μ' → Q .non μ') : wF F_Places_link [.ref q, .int x, .int y] μ Q := by
  unfold F_Places_link
  rw [f_body]
  refine ⟨rfl, ?_⟩
  show wS _ [some (.ref q), some (.int x), some (.int y), none] μ _
  unfold m_Places_link
  have g1 : ∀ μ' fs', Pl μ' q a b ls fs' → getF [(1, 1)] (.ref q) μ' = some (.ref b) := fun μ' fs' h => o_getF h.hq rfl
  simp only [w_bnd, w_ret, w_eC, w_var, w_opS, w_op, w_N, w_CB, w_CS, w_nil, w_cons, w_call, w_if, w_B, w_and, w_or, w_not, w_vAnd, w_vOr, w_vNot, w_neg, w_tup, w_lstF, w_lstC, w_chain, w_fld, w_sl, w_oN, w_oS, w_isLs, w_isSt, w_me, w_meth, w_methS, w_make, w_fmt, w_frz, w_isi, s_seq, s_next, s_set, s_asg, s_expr, s_ret, s_retN, s_if, s_cnt, s_brk, s_no, s_par, s_par3, s_tp, s_gsNil, s_gsCons, s_fld, s_fldT, s_sub, s_aug, s_fldA, s_augS, s_for, w_lc, w_src, w_srcL, w_srcT, w_srcS, w_srcR, w_rng1, wO_some, wO_none, List.getElem?_cons_zero, List.getElem?_cons_succ, List.set_cons_zero, List.set_cons_succ, fin_v, fin_lF, fin_lT, g1 μ fs h, o_lenC h.hb]
  refine ⟨_, rfl, by simp; omega, ?_⟩
  refine s_fix (fun i Γ' μ' => ∃ x3 fs', Γ' = [some (.ref q), some (.int x), some (.int y), x3] ∧ Pl μ' q a b ls fs' ∧ Up a b μ μ' ∧ fs'.length = fs.length) ⟨none, fs, rfl, h, h.up, rfl⟩ ?_ ?_
  · rintro i d Γ1 μ1 hd ⟨x3, fs', rfl, hP, hU, hfl⟩
    have hi : i < fs.length := by
      have := (List.getElem?_eq_some_iff.mp hd).1
      simpa [intsD] using this
    have hd' : d = .int (i : Int) := by
      simp [intsD, hi] at hd
      exact hd.symm
    subst hd'
    simp only [tru, w_bnd, w_ret, w_eC, w_var, w_opS, w_op, w_N, w_CB, w_CS, w_nil, w_cons, w_call, w_if, w_B, w_and, w_or, w_not, w_vAnd, w_vOr, w_vNot, w_neg, w_tup, w_lstF, w_lstC, w_chain, w_fld, w_sl, w_oN, w_oS, w_isLs, w_isSt, w_me, w_meth, w_methS, w_make, w_fmt, w_frz, w_isi, s_seq, s_next, s_set, s_asg, s_expr, s_ret, s_retN, s_if, s_cnt, s_brk, s_no, s_par, s_par3, s_tp, s_gsNil, s_gsCons, s_fld, s_fldT, s_sub, s_aug, s_fldA, s_augS, s_for, w_lc, w_src, w_srcL, w_srcT, w_srcS, w_srcR, w_rng1, wO_some, wO_none, List.getElem?_cons_zero, List.getElem?_cons_succ, List.set_cons_zero, List.set_cons_succ, fin_v, fin_lF, fin_lT, o_shr (show (0 : Int) ≤ (i : Int) by omega), o_band, truD, Option.map_some]
    split
    · have hx : getN (.ref b) (.int (i : Int)) μ1 = some (.int (fs'[i]'(by omega))) := by
        simp only [getN, hP.hb]
        rw [if_pos (by omega)]
        simp [hfl, hi]
      have hs : setIx (.ref b) (.int (i : Int)) (.int (Builtin.bitOr (fs'[i]'(by omega)) y)) μ1 = some (μ1.set b (.lst ((fs'.map .int).set i (.int (Builtin.bitOr (fs'[i]'(by omega)) y))))) := o_setC hP.hb (by simp; omega)
      simp only [g1 μ1 fs' hP, wO_some, hx, fBor, o_bor, Option.map_some, fin_v, hs]
      refine ⟨_, fs'.set i (Builtin.bitOr (fs'[i]'(by omega)) y), rfl, ?_, ?_, by simpa using hfl⟩
      · rw [← List.map_set]
        exact hP.setB (by simp)
      · rw [← List.map_set]
        exact hU.q
    · exact ⟨_, fs', rfl, hP, hU, hfl⟩
  · rintro Γ1 μ1 ⟨x3, fs', rfl, hP, hU, hfl⟩
    show Q (leave μ .non μ1).1 (leave μ .non μ1).2
    rw [leave_same hU.len]
    exact hQ fs' μ1 hP hU
theorem add_ok {μ : Sto} {q a b : Nat} {ls : List (List Nat)} {fs : List Int} {l : List Nat} {Q : D → Sto → Prop} (h : Pl μ q a b ls fs) (hl : ls.length ≤ 1000) (hQ : ∀ z μ', Pl μ' q a b (ls ++ [l]) (fs ++ [0]) → Up a b μ μ' → Q (.int z) μ') : wF F_Places_add [.ref q, .str l] μ Q := by
  unfold F_Places_add
  rw [f_body]
  refine ⟨rfl, ?_⟩
  show wS _ [some (.ref q), some (.str l)] μ _
  unfold m_Places_add
  have hfl := h.len
  have g0 : getF [(1, 0)] (.ref q) μ = some (.ref a) := o_getF h.hq rfl
  have h1q : (μ.set a (.lst (psS ls ++ [.str l])))[q]? = some (plO a b) := by rw [List.getElem?_set_ne (Ne.symm h.qa)]; exact h.hq
  have h1b : (μ.set a (.lst (psS ls ++ [.str l])))[b]? = some (.lst (fs.map .int)) := by rw [List.getElem?_set_ne h.ab]; exact h.hb
  have g1 : getF [(1, 1)] (.ref q) (μ.set a (.lst (psS ls ++ [.str l]))) = some (.ref b) := o_getF h1q rfl
  have a1 := o_append (d := .str l) h.ha (by rw [psS_len]; show _ < 1000000; omega)
  have a2 := o_append (d := .int 0) h1b (by simp [big]; omega)
  have e : ((μ.set a (.lst (psS ls ++ [.str l]))).set b (.lst (fs.map .int ++ [.int 0]))) = (μ.set a (.lst (psS (ls ++ [l])))).set b (.lst ((fs ++ [0]).map .int)) := by
    rw [psS_app]; simp [psS]
  have hP : Pl ((μ.set a (.lst (psS (ls ++ [l])))).set b (.lst ((fs ++ [0]).map .int))) q a b (ls ++ [l]) (fs ++ [0]) := by
    refine ⟨?_, ?_, ?_, h.ab, h.qa, h.qb, by simp [hfl]⟩
    · rw [List.getElem?_set_ne (Ne.symm h.qb), List.getElem?_set_ne (Ne.symm h.qa)]; exact h.hq
    · rw [List.getElem?_set_ne (Ne.symm h.ab), set_at (lt_at h.ha)]
    · rw [set_at (by simpa using lt_at h.hb)]
  have g2 : getF [(1, 0)] (.ref q) ((μ.set a (.lst (psS (ls ++ [l])))).set b (.lst ((fs ++ [0]).map .int))) = some (.ref a) := o_getF hP.hq rfl
  simp only [w_bnd, w_ret, w_eC, w_var, w_opS, w_op, w_N, w_CB, w_CS, w_nil, w_cons, w_call, w_if, w_B, w_and, w_or, w_not, w_vAnd, w_vOr, w_vNot, w_neg, w_tup, w_lstF, w_lstC, w_chain, w_fld, w_sl, w_oN, w_oS, w_isLs, w_isSt, w_me, w_meth, w_methS, w_make, w_fmt, w_frz, w_isi, s_seq, s_next, s_set, s_asg, s_expr, s_ret, s_retN, s_if, s_cnt, s_brk, s_no, s_par, s_par3, s_tp, s_gsNil, s_gsCons, s_fld, s_fldT, s_sub, s_aug, s_fldA, s_augS, s_for, w_lc, w_src, w_srcL, w_srcT, w_srcS, w_srcR, w_rng1, wO_some, wO_none, List.getElem?_cons_zero, List.getElem?_cons_succ, List.set_cons_zero, List.set_cons_succ, fin_v, fin_lF, fin_lT, g0, l_ref h.ha, a1, g1, l_ref h1b, a2]
  rw [e]
  simp only [g2, wO_some, o_lenC hP.ha, fin_v, o_sub, psS_len]
  rw [o_shl ⟨by simp <;> omega, by simp <;> omega, by decide⟩]
  simp only [wO_some, fin_v]
  rw [leave_same (by simp)]
  exact hQ _ _ hP ⟨_, _, rfl⟩
def isL (d : D) : Prop := ∃ e f l, d = .tup [.bl e, .int f, .int l]
/-- a tree may be laid: c places, below k calls deep -/
def LayD (k c : Nat) (t : D) : Prop := ∀ (m : Nat) (μ : Sto) (q a b : Nat) (ls : List (List Nat)) (fs : List Int) (Q : D → Sto → Prop), k ≤ m → Pl μ q a b ls fs → ls.length + c ≤ 900 →
  (∀ d ls' fs' μ', isL d → Pl μ' q a b ls' fs' → ls'.length = ls.length + c → Up a b μ μ' → Q d μ') → wF (F_Places_lay m) [.ref q, t] μ Q
theorem noref_L {d : D} (h : isL d) : NoRef d := by
  obtain ⟨e, f, l, rfl⟩ := h
  exact fun n => rfl
theorem chained_ok {μ : Sto} {q a b : Nat} {ls : List (List Nat)} {fs : List Int} {ds : List D} {Q : D → Sto → Prop} (h : Pl μ q a b ls fs) (hd : ∀ d ∈ ds, isL d) (hl : ls.length ≤ 1000) (hQ : ∀ d fs' μ', isL d → Pl μ' q a b ls fs' → Up a b μ μ' → Q d μ') : wF F_Places_chained [.ref q, .lst ds] μ Q := by
  unfold F_Places_chained
  rw [f_body]
  refine ⟨rfl, ?_⟩
  show wS _ [some (.ref q), some (.lst ds), none, none, none, none, none, none] μ _
  unfold m_Places_chained
  refine q_seq (fun Γ' μ' => ∃ e f l x5 x6 x7, Γ' = [some (.ref q), some (.lst ds), some (.bl e), some (.int f), some (.int l), x5, x6, x7] ∧ μ' = μ) ?_ ?_
  · simp only [w_bnd, w_ret, w_eC, w_var, w_opS, w_op, w_N, w_CB, w_CS, w_nil, w_cons, w_call, w_if, w_B, w_and, w_or, w_not, w_vAnd, w_vOr, w_vNot, w_neg, w_tup, w_lstF, w_lstC, w_chain, w_fld, w_sl, w_oN, w_oS, w_isLs, w_isSt, w_me, w_meth, w_methS, w_make, w_fmt, w_frz, w_isi, s_seq, s_next, s_set, s_asg, s_expr, s_ret, s_retN, s_if, s_cnt, s_brk, s_no, s_par, s_par3, s_tp, s_gsNil, s_gsCons, s_fld, s_fldT, s_sub, s_aug, s_fldA, s_augS, s_for, w_lc, w_src, w_srcL, w_srcT, w_srcS, w_srcR, w_rng1, wO_some, wO_none, List.getElem?_cons_zero, List.getElem?_cons_succ, List.set_cons_zero, List.set_cons_succ, fin_v, fin_lF, fin_lT]
    refine ⟨by simp, _, rfl, rfl, ?_⟩
    simp only [w_bnd, w_ret, w_eC, w_var, w_opS, w_op, w_N, w_CB, w_CS, w_nil, w_cons, w_call, w_if, w_B, w_and, w_or, w_not, w_vAnd, w_vOr, w_vNot, w_neg, w_tup, w_lstF, w_lstC, w_chain, w_fld, w_sl, w_oN, w_oS, w_isLs, w_isSt, w_me, w_meth, w_methS, w_make, w_fmt, w_frz, w_isi, s_seq, s_next, s_set, s_asg, s_expr, s_ret, s_retN, s_if, s_cnt, s_brk, s_no, s_par, s_par3, s_tp, s_gsNil, s_gsCons, s_fld, s_fldT, s_sub, s_aug, s_fldA, s_augS, s_for, w_lc, w_src, w_srcL, w_srcT, w_srcS, w_srcR, w_rng1, wO_some, wO_none, List.getElem?_cons_zero, List.getElem?_cons_succ, List.set_cons_zero, List.set_cons_succ, fin_v, fin_lF, fin_lT]
    exact ⟨_, _, _, _, _, _, rfl, by first | trivial | rfl⟩
  rintro Γ' μ' ⟨e, f, l, x5, x6, x7, rfl, rfl⟩
  refine q_seq (fun Γ' μ1 => ∃ e f l x5 x6 x7 fs', Γ' = [some (.ref q), some (.lst ds), some (.bl e), some (.int f), some (.int l), x5, x6, x7] ∧ Pl μ1 q a b ls fs' ∧ Up a b μ' μ1) ?_ ?_
  · rw [s_for, w_src]
    simp only [w_var, List.getElem?_cons_zero, List.getElem?_cons_succ, wO_some, w_srcL]
    refine s_fix (fun i Γ' μ1 => ∃ e f l x5 x6 x7 fs', Γ' = [some (.ref q), some (.lst ds), some (.bl e), some (.int f), some (.int l), x5, x6, x7] ∧ Pl μ1 q a b ls fs' ∧ Up a b μ' μ1) ⟨e, f, l, x5, x6, x7, fs, rfl, h, h.up⟩ ?_ (fun _ _ h => h)
    rintro i d Γ1 μ1 hdi ⟨e, f, l, x5, x6, x7, fs1, rfl, hP, hU⟩
    obtain ⟨e', f', l', rfl⟩ := hd d (List.mem_of_getElem? hdi)
    rw [s_tp]
    refine ⟨_, rfl, rfl, ?_⟩
    simp only [w_bnd, w_ret, w_eC, w_var, w_opS, w_op, w_N, w_CB, w_CS, w_nil, w_cons, w_call, w_if, w_B, w_and, w_or, w_not, w_vAnd, w_vOr, w_vNot, w_neg, w_tup, w_lstF, w_lstC, w_chain, w_fld, w_sl, w_oN, w_oS, w_isLs, w_isSt, w_me, w_meth, w_methS, w_make, w_fmt, w_frz, w_isi, s_seq, s_next, s_set, s_asg, s_expr, s_ret, s_retN, s_if, s_cnt, s_brk, s_no, s_par, s_par3, s_tp, s_gsNil, s_gsCons, s_fld, s_fldT, s_sub, s_aug, s_fldA, s_augS, s_for, w_lc, w_src, w_srcL, w_srcT, w_srcS, w_srcR, w_rng1, wO_some, wO_none, List.getElem?_cons_zero, List.getElem?_cons_succ, List.set_cons_zero, List.set_cons_succ, fin_v, fin_lF, fin_lT]
    refine ⟨insP_ok' hP.hq, link_ok hP (by rw [← hP.len]; omega) fun fs2 μ2 hP2 hU2 => ?_⟩
    refine ⟨e, rfl, ?_⟩
    cases e with
    | true =>
      simp only [if_true, o_bor, wO_some, fin_v]
      refine ⟨e', rfl, ?_⟩
      cases e' with
      | true =>
        simp only [if_true, o_bor, wO_some, fin_v]
        exact ⟨_, rfl, by simp only [if_true]; exact ⟨_, _, _, _, _, _, _, rfl, hP2, hU.trans hP.ab hU2⟩⟩
      | false =>
        simp only [Bool.false_eq_true, if_false]
        exact ⟨_, rfl, by simp only [if_true]; exact ⟨_, _, _, _, _, _, _, rfl, hP2, hU.trans hP.ab hU2⟩⟩
    | false =>
      simp only [Bool.false_eq_true, if_false]
      refine ⟨e', rfl, ?_⟩
      cases e' with
      | true =>
        simp only [if_true, o_bor, wO_some, fin_v]
        exact ⟨_, rfl, by simp only [Bool.false_eq_true, if_false]; exact ⟨_, _, _, _, _, _, _, rfl, hP2, hU.trans hP.ab hU2⟩⟩
      | false =>
        simp only [Bool.false_eq_true, if_false]
        exact ⟨_, rfl, by simp only [Bool.false_eq_true, if_false]; exact ⟨_, _, _, _, _, _, _, rfl, hP2, hU.trans hP.ab hU2⟩⟩
  rintro Γ' μ1 ⟨e, f, l, x5, x6, x7, fs', rfl, hP, hU⟩
  simp only [w_bnd, w_ret, w_eC, w_var, w_opS, w_op, w_N, w_CB, w_CS, w_nil, w_cons, w_call, w_if, w_B, w_and, w_or, w_not, w_vAnd, w_vOr, w_vNot, w_neg, w_tup, w_lstF, w_lstC, w_chain, w_fld, w_sl, w_oN, w_oS, w_isLs, w_isSt, w_me, w_meth, w_methS, w_make, w_fmt, w_frz, w_isi, s_seq, s_next, s_set, s_asg, s_expr, s_ret, s_retN, s_if, s_cnt, s_brk, s_no, s_par, s_par3, s_tp, s_gsNil, s_gsCons, s_fld, s_fldT, s_sub, s_aug, s_fldA, s_augS, s_for, w_lc, w_src, w_srcL, w_srcT, w_srcS, w_srcR, w_rng1, wO_some, wO_none, List.getElem?_cons_zero, List.getElem?_cons_succ, List.set_cons_zero, List.set_cons_succ, fin_v, fin_lF, fin_lT]
  refine ⟨by simp, ?_⟩
  rw [leave_same hU.len]
  exact hQ _ fs' μ1 ⟨_, _, _, rfl⟩ hP hU
end K01

set_option maxRecDepth 100000
set_option maxHeartbeats 1000000
namespace K01
open PySem L2 PyProof.Rows PySem.Spec Ab
/-! ### trees are laid -/
theorem lay_one (l : List Nat) : LayD 1 1 (tOne l) := by
  intro m μ q a b ls fs Q hm hP hl hQ
  obtain ⟨m, rfl⟩ : ∃ k, m = k + 1 := ⟨m - 1, by omega⟩
  show wF (body 12 2 (m_Places_lay F_Places_add (F_Places_lay m) F_Places_chained F_Places_link)) _ μ Q
  rw [f_body]
  refine ⟨rfl, ?_⟩
  show wS _ [some (.ref q), some (tOne l), none, none, none, none, none, none, none, none, none, none] μ _
  unfold m_Places_lay
  have e1 : gEq false (.str [111, 110, 101]) (.str [111, 110, 101]) μ = some (.v (.bl true)) := rfl
  have e2 : gIx (.lst [.str l]) (.int 0) μ = some (.str l, μ) := o_ixL (i := 0) rfl
  simp only [w_bnd, w_ret, w_eC, w_var, w_opS, w_op, w_N, w_CB, w_CS, w_nil, w_cons, w_call, w_if, w_B, w_and, w_or, w_not, w_vAnd, w_vOr, w_vNot, w_neg, w_tup, w_lstF, w_lstC, w_chain, w_fld, w_sl, w_oN, w_oS, w_isLs, w_isSt, w_me, w_meth, w_methS, w_make, w_fmt, w_frz, w_isi, s_seq, s_next, s_set, s_asg, s_expr, s_ret, s_retN, s_if, s_cnt, s_brk, s_no, s_par, s_par3, s_tp, s_gsNil, s_gsCons, s_fld, s_fldT, s_sub, s_aug, s_fldA, s_augS, s_for, w_lc, w_src, w_srcL, w_srcT, w_srcS, w_srcR, w_rng1, wO_some, wO_none, List.getElem?_cons_zero, List.getElem?_cons_succ, List.set_cons_zero, List.set_cons_succ, fin_v, fin_lF, fin_lT]
  refine ⟨_, rfl, rfl, ?_⟩
  simp only [w_bnd, w_ret, w_eC, w_var, w_opS, w_op, w_N, w_CB, w_CS, w_nil, w_cons, w_call, w_if, w_B, w_and, w_or, w_not, w_vAnd, w_vOr, w_vNot, w_neg, w_tup, w_lstF, w_lstC, w_chain, w_fld, w_sl, w_oN, w_oS, w_isLs, w_isSt, w_me, w_meth, w_methS, w_make, w_fmt, w_frz, w_isi, s_seq, s_next, s_set, s_asg, s_expr, s_ret, s_retN, s_if, s_cnt, s_brk, s_no, s_par, s_par3, s_tp, s_gsNil, s_gsCons, s_fld, s_fldT, s_sub, s_aug, s_fldA, s_augS, s_for, w_lc, w_src, w_srcL, w_srcT, w_srcS, w_srcR, w_rng1, wO_some, wO_none, List.getElem?_cons_zero, List.getElem?_cons_succ, List.set_cons_zero, List.set_cons_succ, fin_v, fin_lF, fin_lT, e1]
  refine ⟨_, rfl, ?_⟩
  simp only [if_true, e2, wO_some]
  refine ⟨insP_ok' hP.hq, add_ok hP (by omega) fun z μ' hP' hU => ?_⟩
  refine ⟨by simp, ?_⟩
  rw [leave_same hU.len]
  exact hQ _ _ _ _ ⟨_, _, _, rfl⟩ hP' (by simp) hU
theorem isL_bls : ∀ {ds : List D}, (∀ d ∈ ds, isL d) → ∃ bs : List Bool, ds.length = bs.length ∧ ds.map (fun d => match d with | .tup (x :: _) => x | _ => .non) = bs.map D.bl
  | [], _ => ⟨[], rfl, rfl⟩
  | d :: ds, h => by
    obtain ⟨bs, h1, h2⟩ := isL_bls (ds := ds) fun e he => h e (by simp [he])
    obtain ⟨e, f, l, rfl⟩ := h d (by simp)
    exact ⟨e :: bs, by simp [h1], by simp [h2]⟩
/-- the parts, one after the other -/
theorem parts_ok {m k : Nat} {ts : List D} {cs : List Nat} {μ : Sto} {q a b : Nat} {ls : List (List Nat)} {fs : List Int} {x1 x2 x4 x5 x6 x7 x8 x9 x10 : Option D} {Q : List D × Sto → Prop} (hk : k ≤ m) (hP : Pl μ q a b ls fs) (hA : All2 (fun t c => LayD k c t) ts cs) (hl : ls.length + cs.sum ≤ 900) (ht : ts.length ≤ 900)
    (hQ : ∀ ds ls' fs' μ', (∀ d ∈ ds, isL d) → ds.length = ts.length → Pl μ' q a b ls' fs' → ls'.length = ls.length + cs.sum → Up a b μ μ' → Q (ds, μ')) :
    wO (lcLoop (.fix ts) (.nm 11) mYes (eMeth 1 (F_Places_lay m) (eVar 0) (aCons (eVar 11) aNil)) [some (.ref q), x1, x2, some (.lst ts), x4, x5, x6, x7, x8, x9, x10, none] (Src.fuel μ (.fix ts)) 0 [] μ) Q := by
  refine lc_fix (fun i acc μ1 => ∃ ls' fs', (∀ d ∈ acc, isL d) ∧ acc.length = i ∧ Pl μ1 q a b ls' fs' ∧ ls'.length = ls.length + (cs.take i).sum ∧ Up a b μ μ1) ?_ ?_ _ 0 [] μ (by simp [Src.fuel]) (Nat.zero_le _) ⟨ls, fs, by simp, rfl, hP, by simp, hP.up⟩
  · rintro i d acc μ1 hd ⟨ls', fs', h1, h2, h3, h4, h5⟩
    have hi : i < ts.length := (List.getElem?_eq_some_iff.mp hd).1
    have hic : i < cs.length := by rw [← hA.1]; exact hi
    refine ⟨_, rfl, ?_⟩
    show wM (ret true) _ μ1 _
    rw [w_ret, if_pos rfl]
    show wM (eMeth 1 (F_Places_lay m) (eVar 0) (aCons (eVar 11) aNil)) [some (.ref q), x1, x2, some (.lst ts), x4, x5, x6, x7, x8, x9, x10, some d] μ1 _
    simp only [w_bnd, w_ret, w_eC, w_var, w_opS, w_op, w_N, w_CB, w_CS, w_nil, w_cons, w_call, w_if, w_B, w_and, w_or, w_not, w_vAnd, w_vOr, w_vNot, w_neg, w_tup, w_lstF, w_lstC, w_chain, w_fld, w_sl, w_oN, w_oS, w_isLs, w_isSt, w_me, w_meth, w_methS, w_make, w_fmt, w_frz, w_isi, s_seq, s_next, s_set, s_asg, s_expr, s_ret, s_retN, s_if, s_cnt, s_brk, s_no, s_par, s_par3, s_tp, s_gsNil, s_gsCons, s_fld, s_fldT, s_sub, s_aug, s_fldA, s_augS, s_for, w_lc, w_src, w_srcL, w_srcT, w_srcS, w_srcR, w_rng1, wO_some, wO_none, List.getElem?_cons_zero, List.getElem?_cons_succ, List.set_cons_zero, List.set_cons_succ, fin_v, fin_lF, fin_lT]
    refine ⟨insP_ok' h3.hq, ?_⟩
    have hcs : cs.sum = (cs.take i).sum + (cs[i] + (cs.drop (i + 1)).sum) := by
      have e : cs = cs.take i ++ (cs[i] :: cs.drop (i + 1)) := by rw [← List.drop_eq_getElem_cons hic, List.take_append_drop]
      have := congrArg List.sum e
      rwa [List.sum_append, List.sum_cons] at this
    refine hA.2 i d cs[i] hd (List.getElem?_eq_getElem hic) m μ1 q a b ls' fs' _ hk h3 (by omega) fun e ls2 fs2 μ2 g1 g2 g3 g4 => ?_
    refine ⟨by show _ < 1000000; omega, ls2, fs2, ?_, by simp [h2], g2, ?_, h5.trans h3.ab g4⟩
    · intro x hx
      rcases List.mem_append.mp hx with hx | hx
      · exact h1 x hx
      · simp at hx; subst hx; exact g1
    · rw [take_snoc (List.getElem?_eq_getElem hic), List.sum_append, g3, h4]
      simp; omega
  · rintro acc μ1 ⟨ls', fs', h1, h2, h3, h4, h5⟩
    rw [hA.1, List.take_length] at h4
    exact hQ acc ls' fs' μ1 h1 h2 h3 h4 h5
theorem any_first {ds : List D} {μ : Sto} {x0 x1 x2 x3 x4 x5 x6 x7 x11 : Option D} {Q : List D × Sto → Prop} (h : ∀ d ∈ ds, isL d) (hl : ds.length ≤ 1000) (hQ : ∀ bs : List Bool, Q (bs.map .bl, μ)) :
    wO (lcLoop (.fix ds) (.tp [8, 9, 10]) mYes (eVar 8) [x0, x1, x2, x3, x4, x5, x6, x7, none, none, none, x11] (Src.fuel μ (.fix ds)) 0 [] μ) Q := by
  refine lc_map (fun d => match d with | .tup (x :: _) => x | _ => .non) (fun d hd => ?_) (by show _ ≤ 1000000; omega) ?_
  · obtain ⟨e, f, l, rfl⟩ := h d hd
    exact ⟨_, rfl, fun Q' hq => hq⟩
  · obtain ⟨bs, _, h2⟩ := isL_bls h
    rw [h2]
    exact hQ bs
theorem lay_all {k : Nat} {ts : List D} {cs : List Nat} (hA : All2 (fun t c => LayD k c t) ts cs) (ht : ts.length ≤ 900) : LayD (k + 1) cs.sum (tAll ts) := by
  intro m μ q a b ls fs Q hm hP hl hQ
  obtain ⟨m, rfl⟩ : ∃ k, m = k + 1 := ⟨m - 1, by omega⟩
  show wF (body 12 2 (m_Places_lay F_Places_add (F_Places_lay m) F_Places_chained F_Places_link)) _ μ Q
  rw [f_body]
  refine ⟨rfl, ?_⟩
  show wS _ [some (.ref q), some (tAll ts), none, none, none, none, none, none, none, none, none, none] μ _
  unfold m_Places_lay
  have e1 : ∀ ν, gEq false (.str [97, 108, 108]) (.str [111, 110, 101]) ν = some (.v (.bl false)) := fun _ => rfl
  have e2 : ∀ ν, gEq false (.str [97, 108, 108]) (.str [111, 114]) ν = some (.v (.bl false)) := fun _ => rfl
  have e3 : ∀ ν, gEq false (.str [97, 108, 108]) (.str [97, 108, 108]) ν = some (.v (.bl true)) := fun _ => rfl
  simp only [w_bnd, w_ret, w_eC, w_var, w_opS, w_op, w_N, w_CB, w_CS, w_nil, w_cons, w_call, w_if, w_B, w_and, w_or, w_not, w_vAnd, w_vOr, w_vNot, w_neg, w_tup, w_lstF, w_lstC, w_chain, w_fld, w_sl, w_oN, w_oS, w_isLs, w_isSt, w_me, w_meth, w_methS, w_make, w_fmt, w_frz, w_isi, s_seq, s_next, s_set, s_asg, s_expr, s_ret, s_retN, s_if, s_cnt, s_brk, s_no, s_par, s_par3, s_tp, s_gsNil, s_gsCons, s_fld, s_fldT, s_sub, s_aug, s_fldA, s_augS, s_for, w_lc, w_src, w_srcL, w_srcT, w_srcS, w_srcR, w_rng1, wO_some, wO_none, List.getElem?_cons_zero, List.getElem?_cons_succ, List.set_cons_zero, List.set_cons_succ, fin_v, fin_lF, fin_lT]
  refine ⟨_, rfl, rfl, ?_⟩
  simp only [w_bnd, w_ret, w_eC, w_var, w_opS, w_op, w_N, w_CB, w_CS, w_nil, w_cons, w_call, w_if, w_B, w_and, w_or, w_not, w_vAnd, w_vOr, w_vNot, w_neg, w_tup, w_lstF, w_lstC, w_chain, w_fld, w_sl, w_oN, w_oS, w_isLs, w_isSt, w_me, w_meth, w_methS, w_make, w_fmt, w_frz, w_isi, s_seq, s_next, s_set, s_asg, s_expr, s_ret, s_retN, s_if, s_cnt, s_brk, s_no, s_par, s_par3, s_tp, s_gsNil, s_gsCons, s_fld, s_fldT, s_sub, s_aug, s_fldA, s_augS, s_for, w_lc, w_src, w_srcL, w_srcT, w_srcS, w_srcR, w_rng1, wO_some, wO_none, List.getElem?_cons_zero, List.getElem?_cons_succ, List.set_cons_zero, List.set_cons_succ, fin_v, fin_lF, fin_lT, e1]
  refine ⟨_, rfl, ?_⟩
  simp only [Bool.false_eq_true, if_false]
  refine parts_ok (by omega) hP hA hl ht fun ds ls' fs' μ' h1 h2 h3 h4 h5 => ?_
  simp only [w_bnd, w_ret, w_eC, w_var, w_opS, w_op, w_N, w_CB, w_CS, w_nil, w_cons, w_call, w_if, w_B, w_and, w_or, w_not, w_vAnd, w_vOr, w_vNot, w_neg, w_tup, w_lstF, w_lstC, w_chain, w_fld, w_sl, w_oN, w_oS, w_isLs, w_isSt, w_me, w_meth, w_methS, w_make, w_fmt, w_frz, w_isi, s_seq, s_next, s_set, s_asg, s_expr, s_ret, s_retN, s_if, s_cnt, s_brk, s_no, s_par, s_par3, s_tp, s_gsNil, s_gsCons, s_fld, s_fldT, s_sub, s_aug, s_fldA, s_augS, s_for, w_lc, w_src, w_srcL, w_srcT, w_srcS, w_srcR, w_rng1, wO_some, wO_none, List.getElem?_cons_zero, List.getElem?_cons_succ, List.set_cons_zero, List.set_cons_succ, fin_v, fin_lF, fin_lT, e2]
  refine ⟨_, rfl, ?_⟩
  simp only [Bool.false_eq_true, if_false, e3, wO_some, fin_v]
  refine ⟨_, rfl, ?_⟩
  simp only [if_true]
  refine ⟨insP_ok' h3.hq, chained_ok h3 h1 (by omega) fun d fs2 μ2 g1 g2 g3 => ?_⟩
  rw [leave_same (g3.len.trans h5.len)]
  exact hQ d ls' fs2 μ2 g1 g2 h4 (h5.trans hP.ab g3)
theorem lay_or {k : Nat} {ts : List D} {cs : List Nat} (hA : All2 (fun t c => LayD k c t) ts cs) (ht : ts.length ≤ 900) : LayD (k + 1) cs.sum (tOr ts) := by
  intro m μ q a b ls fs Q hm hP hl hQ
  obtain ⟨m, rfl⟩ : ∃ k, m = k + 1 := ⟨m - 1, by omega⟩
  show wF (body 12 2 (m_Places_lay F_Places_add (F_Places_lay m) F_Places_chained F_Places_link)) _ μ Q
  rw [f_body]
  refine ⟨rfl, ?_⟩
  show wS _ [some (.ref q), some (tOr ts), none, none, none, none, none, none, none, none, none, none] μ _
  unfold m_Places_lay
  have e1 : ∀ ν, gEq false (.str [111, 114]) (.str [111, 110, 101]) ν = some (.v (.bl false)) := fun _ => rfl
  have e2 : ∀ ν, gEq false (.str [111, 114]) (.str [111, 114]) ν = some (.v (.bl true)) := fun _ => rfl
  simp only [w_bnd, w_ret, w_eC, w_var, w_opS, w_op, w_N, w_CB, w_CS, w_nil, w_cons, w_call, w_if, w_B, w_and, w_or, w_not, w_vAnd, w_vOr, w_vNot, w_neg, w_tup, w_lstF, w_lstC, w_chain, w_fld, w_sl, w_oN, w_oS, w_isLs, w_isSt, w_me, w_meth, w_methS, w_make, w_fmt, w_frz, w_isi, s_seq, s_next, s_set, s_asg, s_expr, s_ret, s_retN, s_if, s_cnt, s_brk, s_no, s_par, s_par3, s_tp, s_gsNil, s_gsCons, s_fld, s_fldT, s_sub, s_aug, s_fldA, s_augS, s_for, w_lc, w_src, w_srcL, w_srcT, w_srcS, w_srcR, w_rng1, wO_some, wO_none, List.getElem?_cons_zero, List.getElem?_cons_succ, List.set_cons_zero, List.set_cons_succ, fin_v, fin_lF, fin_lT]
  refine ⟨_, rfl, rfl, ?_⟩
  simp only [w_bnd, w_ret, w_eC, w_var, w_opS, w_op, w_N, w_CB, w_CS, w_nil, w_cons, w_call, w_if, w_B, w_and, w_or, w_not, w_vAnd, w_vOr, w_vNot, w_neg, w_tup, w_lstF, w_lstC, w_chain, w_fld, w_sl, w_oN, w_oS, w_isLs, w_isSt, w_me, w_meth, w_methS, w_make, w_fmt, w_frz, w_isi, s_seq, s_next, s_set, s_asg, s_expr, s_ret, s_retN, s_if, s_cnt, s_brk, s_no, s_par, s_par3, s_tp, s_gsNil, s_gsCons, s_fld, s_fldT, s_sub, s_aug, s_fldA, s_augS, s_for, w_lc, w_src, w_srcL, w_srcT, w_srcS, w_srcR, w_rng1, wO_some, wO_none, List.getElem?_cons_zero, List.getElem?_cons_succ, List.set_cons_zero, List.set_cons_succ, fin_v, fin_lF, fin_lT, e1]
  refine ⟨_, rfl, ?_⟩
  simp only [Bool.false_eq_true, if_false]
  refine parts_ok (by omega) hP hA hl ht fun ds ls' fs' μ' h1 h2 h3 h4 h5 => ?_
  simp only [w_bnd, w_ret, w_eC, w_var, w_opS, w_op, w_N, w_CB, w_CS, w_nil, w_cons, w_call, w_if, w_B, w_and, w_or, w_not, w_vAnd, w_vOr, w_vNot, w_neg, w_tup, w_lstF, w_lstC, w_chain, w_fld, w_sl, w_oN, w_oS, w_isLs, w_isSt, w_me, w_meth, w_methS, w_make, w_fmt, w_frz, w_isi, s_seq, s_next, s_set, s_asg, s_expr, s_ret, s_retN, s_if, s_cnt, s_brk, s_no, s_par, s_par3, s_tp, s_gsNil, s_gsCons, s_fld, s_fldT, s_sub, s_aug, s_fldA, s_augS, s_for, w_lc, w_src, w_srcL, w_srcT, w_srcS, w_srcR, w_rng1, wO_some, wO_none, List.getElem?_cons_zero, List.getElem?_cons_succ, List.set_cons_zero, List.set_cons_succ, fin_v, fin_lF, fin_lT, e2]
  refine ⟨_, rfl, ?_⟩
  simp only [if_true]
  refine ⟨by simp, _, rfl, rfl, ?_⟩
  simp only [w_bnd, w_ret, w_eC, w_var, w_opS, w_op, w_N, w_CB, w_CS, w_nil, w_cons, w_call, w_if, w_B, w_and, w_or, w_not, w_vAnd, w_vOr, w_vNot, w_neg, w_tup, w_lstF, w_lstC, w_chain, w_fld, w_sl, w_oN, w_oS, w_isLs, w_isSt, w_me, w_meth, w_methS, w_make, w_fmt, w_frz, w_isi, s_seq, s_next, s_set, s_asg, s_expr, s_ret, s_retN, s_if, s_cnt, s_brk, s_no, s_par, s_par3, s_tp, s_gsNil, s_gsCons, s_fld, s_fldT, s_sub, s_aug, s_fldA, s_augS, s_for, w_lc, w_src, w_srcL, w_srcT, w_srcS, w_srcR, w_rng1, wO_some, wO_none, List.getElem?_cons_zero, List.getElem?_cons_succ, List.set_cons_zero, List.set_cons_succ, fin_v, fin_lF, fin_lT]
  refine s_fix (fun i Γ' μ1 => ∃ f l x8 x9 x10, Γ' = [some (.ref q), some (tOr ts), some (.str [111, 114]), some (.lst ts), none, some (.lst ds), some (.int f), some (.int l), x8, x9, x10, none] ∧ μ1 = μ') ⟨_, _, _, _, _, rfl, rfl⟩ ?_ ?_
  · rintro i d Γ1 μ1 hd ⟨f, l, x8, x9, x10, rfl, rfl⟩
    obtain ⟨e', f', l', rfl⟩ := h1 d (List.mem_of_getElem? hd)
    simp only [w_bnd, w_ret, w_eC, w_var, w_opS, w_op, w_N, w_CB, w_CS, w_nil, w_cons, w_call, w_if, w_B, w_and, w_or, w_not, w_vAnd, w_vOr, w_vNot, w_neg, w_tup, w_lstF, w_lstC, w_chain, w_fld, w_sl, w_oN, w_oS, w_isLs, w_isSt, w_me, w_meth, w_methS, w_make, w_fmt, w_frz, w_isi, s_seq, s_next, s_set, s_asg, s_expr, s_ret, s_retN, s_if, s_cnt, s_brk, s_no, s_par, s_par3, s_tp, s_gsNil, s_gsCons, s_fld, s_fldT, s_sub, s_aug, s_fldA, s_augS, s_for, w_lc, w_src, w_srcL, w_srcT, w_srcS, w_srcR, w_rng1, wO_some, wO_none, List.getElem?_cons_zero, List.getElem?_cons_succ, List.set_cons_zero, List.set_cons_succ, fin_v, fin_lF, fin_lT]
    refine ⟨_, rfl, rfl, ?_⟩
    simp only [w_bnd, w_ret, w_eC, w_var, w_opS, w_op, w_N, w_CB, w_CS, w_nil, w_cons, w_call, w_if, w_B, w_and, w_or, w_not, w_vAnd, w_vOr, w_vNot, w_neg, w_tup, w_lstF, w_lstC, w_chain, w_fld, w_sl, w_oN, w_oS, w_isLs, w_isSt, w_me, w_meth, w_methS, w_make, w_fmt, w_frz, w_isi, s_seq, s_next, s_set, s_asg, s_expr, s_ret, s_retN, s_if, s_cnt, s_brk, s_no, s_par, s_par3, s_tp, s_gsNil, s_gsCons, s_fld, s_fldT, s_sub, s_aug, s_fldA, s_augS, s_for, w_lc, w_src, w_srcL, w_srcT, w_srcS, w_srcR, w_rng1, wO_some, wO_none, List.getElem?_cons_zero, List.getElem?_cons_succ, List.set_cons_zero, List.set_cons_succ, fin_v, fin_lF, fin_lT, o_bor]
    refine ⟨_, _, rfl, ?_⟩
    exact ⟨_, _, _, _, _, by first | trivial | rfl, by first | trivial | rfl⟩
  · rintro Γ1 μ1 ⟨f, l, x8, x9, x10, rfl, rfl⟩
    simp only [w_bnd, w_ret, w_eC, w_var, w_opS, w_op, w_N, w_CB, w_CS, w_nil, w_cons, w_call, w_if, w_B, w_and, w_or, w_not, w_vAnd, w_vOr, w_vNot, w_neg, w_tup, w_lstF, w_lstC, w_chain, w_fld, w_sl, w_oN, w_oS, w_isLs, w_isSt, w_me, w_meth, w_methS, w_make, w_fmt, w_frz, w_isi, s_seq, s_next, s_set, s_asg, s_expr, s_ret, s_retN, s_if, s_cnt, s_brk, s_no, s_par, s_par3, s_tp, s_gsNil, s_gsCons, s_fld, s_fldT, s_sub, s_aug, s_fldA, s_augS, s_for, w_lc, w_src, w_srcL, w_srcT, w_srcS, w_srcR, w_rng1, wO_some, wO_none, List.getElem?_cons_zero, List.getElem?_cons_succ, List.set_cons_zero, List.set_cons_succ, fin_v, fin_lF, fin_lT]
    show wO (lcLoop (.fix ds) (.tp [8, 9, 10]) mYes (eVar 8) [some (.ref q), some (tOr ts), some (.str [111, 114]), some (.lst ts), none, some (.lst ds), some (.int f), some (.int l), none, none, none, none] (Src.fuel μ1 (.fix ds)) 0 [] μ1) _
    refine any_first h1 (by omega) fun bs => ?_
    simp only [fin_lF, o_anyB, wO_some, fin_v]
    refine ⟨by simp, ?_⟩
    rw [leave_same h5.len]
    exact hQ _ ls' fs' μ1 ⟨_, _, _, rfl⟩ h3 h4 h5
theorem lay_sg {k c : Nat} {s : List Nat} {t : D} (hs : s ∈ ([[42], [43], [63]] : List (List Nat))) (hA : LayD k c t) : LayD (k + 1) c (.tup [.str s, .lst [t]]) := by
  intro m μ q a b ls fs Q hm hP hl hQ
  obtain ⟨m, rfl⟩ : ∃ k, m = k + 1 := ⟨m - 1, by omega⟩
  show wF (body 12 2 (m_Places_lay F_Places_add (F_Places_lay m) F_Places_chained F_Places_link)) _ μ Q
  rw [f_body]
  refine ⟨rfl, ?_⟩
  show wS _ [some (.ref q), some (.tup [.str s, .lst [t]]), none, none, none, none, none, none, none, none, none, none] μ _
  unfold m_Places_lay
  have hne : s ≠ [111, 110, 101] ∧ s ≠ [111, 114] ∧ s ≠ [97, 108, 108] := by
    simp at hs
    rcases hs with rfl | rfl | rfl <;> decide
  have e1 : ∀ ν, gEq false (.str s) (.str [111, 110, 101]) ν = some (.v (.bl false)) := fun _ => by rw [o_eqS]; simp [hne.1]
  have e2 : ∀ ν, gEq false (.str s) (.str [111, 114]) ν = some (.v (.bl false)) := fun _ => by rw [o_eqS]; simp [hne.2.1]
  have e3 : ∀ ν, gEq false (.str s) (.str [97, 108, 108]) ν = some (.v (.bl false)) := fun _ => by rw [o_eqS]; simp [hne.2.2]
  simp only [w_bnd, w_ret, w_eC, w_var, w_opS, w_op, w_N, w_CB, w_CS, w_nil, w_cons, w_call, w_if, w_B, w_and, w_or, w_not, w_vAnd, w_vOr, w_vNot, w_neg, w_tup, w_lstF, w_lstC, w_chain, w_fld, w_sl, w_oN, w_oS, w_isLs, w_isSt, w_me, w_meth, w_methS, w_make, w_fmt, w_frz, w_isi, s_seq, s_next, s_set, s_asg, s_expr, s_ret, s_retN, s_if, s_cnt, s_brk, s_no, s_par, s_par3, s_tp, s_gsNil, s_gsCons, s_fld, s_fldT, s_sub, s_aug, s_fldA, s_augS, s_for, w_lc, w_src, w_srcL, w_srcT, w_srcS, w_srcR, w_rng1, wO_some, wO_none, List.getElem?_cons_zero, List.getElem?_cons_succ, List.set_cons_zero, List.set_cons_succ, fin_v, fin_lF, fin_lT]
  refine ⟨_, rfl, rfl, ?_⟩
  simp only [w_bnd, w_ret, w_eC, w_var, w_opS, w_op, w_N, w_CB, w_CS, w_nil, w_cons, w_call, w_if, w_B, w_and, w_or, w_not, w_vAnd, w_vOr, w_vNot, w_neg, w_tup, w_lstF, w_lstC, w_chain, w_fld, w_sl, w_oN, w_oS, w_isLs, w_isSt, w_me, w_meth, w_methS, w_make, w_fmt, w_frz, w_isi, s_seq, s_next, s_set, s_asg, s_expr, s_ret, s_retN, s_if, s_cnt, s_brk, s_no, s_par, s_par3, s_tp, s_gsNil, s_gsCons, s_fld, s_fldT, s_sub, s_aug, s_fldA, s_augS, s_for, w_lc, w_src, w_srcL, w_srcT, w_srcS, w_srcR, w_rng1, wO_some, wO_none, List.getElem?_cons_zero, List.getElem?_cons_succ, List.set_cons_zero, List.set_cons_succ, fin_v, fin_lF, fin_lT, e1]
  refine ⟨_, rfl, ?_⟩
  simp only [Bool.false_eq_true, if_false]
  have hA2 : All2 (fun t c => LayD k c t) [t] [c] := All2.snoc (xs := []) (ys := []) All2.nil hA
  refine parts_ok (by omega) hP hA2 (by simpa using hl) (by simp) fun ds ls' fs' μ' h1 h2 h3 h4 h5 => ?_
  obtain ⟨d, rfl⟩ : ∃ d, ds = [d] := by
    match ds, h2 with
    | [d], _ => exact ⟨d, rfl⟩
  obtain ⟨e', f', l', rfl⟩ := h1 d (by simp)
  have h4' : ls'.length = ls.length + c := by simpa using h4
  have e4 : ∀ ν, gIx (.lst [.tup [.bl e', .int f', .int l']]) (.int 0) ν = some (.tup [.bl e', .int f', .int l'], ν) := fun ν => o_ixL (i := 0) rfl
  simp only [w_bnd, w_ret, w_eC, w_var, w_opS, w_op, w_N, w_CB, w_CS, w_nil, w_cons, w_call, w_if, w_B, w_and, w_or, w_not, w_vAnd, w_vOr, w_vNot, w_neg, w_tup, w_lstF, w_lstC, w_chain, w_fld, w_sl, w_oN, w_oS, w_isLs, w_isSt, w_me, w_meth, w_methS, w_make, w_fmt, w_frz, w_isi, s_seq, s_next, s_set, s_asg, s_expr, s_ret, s_retN, s_if, s_cnt, s_brk, s_no, s_par, s_par3, s_tp, s_gsNil, s_gsCons, s_fld, s_fldT, s_sub, s_aug, s_fldA, s_augS, s_for, w_lc, w_src, w_srcL, w_srcT, w_srcS, w_srcR, w_rng1, wO_some, wO_none, List.getElem?_cons_zero, List.getElem?_cons_succ, List.set_cons_zero, List.set_cons_succ, fin_v, fin_lF, fin_lT, e2]
  refine ⟨_, rfl, ?_⟩
  simp only [Bool.false_eq_true, if_false, e3, wO_some, fin_v]
  refine ⟨_, rfl, ?_⟩
  simp only [Bool.false_eq_true, if_false, e4, wO_some]
  refine ⟨_, rfl, rfl, ?_⟩
  simp only [w_bnd, w_ret, w_eC, w_var, w_opS, w_op, w_N, w_CB, w_CS, w_nil, w_cons, w_call, w_if, w_B, w_and, w_or, w_not, w_vAnd, w_vOr, w_vNot, w_neg, w_tup, w_lstF, w_lstC, w_chain, w_fld, w_sl, w_oN, w_oS, w_isLs, w_isSt, w_me, w_meth, w_methS, w_make, w_fmt, w_frz, w_isi, s_seq, s_next, s_set, s_asg, s_expr, s_ret, s_retN, s_if, s_cnt, s_brk, s_no, s_par, s_par3, s_tp, s_gsNil, s_gsCons, s_fld, s_fldT, s_sub, s_aug, s_fldA, s_augS, s_for, w_lc, w_src, w_srcL, w_srcT, w_srcS, w_srcR, w_rng1, wO_some, wO_none, List.getElem?_cons_zero, List.getElem?_cons_succ, List.set_cons_zero, List.set_cons_succ, fin_v, fin_lF, fin_lT]
  have i1 := fun ν => in_strs (μ := ν) (p := s) (ss := [[42], [43]])
  have i2 := fun ν => in_strs (μ := ν) (p := s) (ss := [[42], [63]])
  simp only [List.map_cons, List.map_nil] at i1 i2
  refine ⟨by simp, ?_⟩
  simp only [i1, wO_some, fin_v]
  refine ⟨_, rfl, ?_⟩
  have fin : ∀ fs2 μ2, Pl μ2 q a b ls' fs2 → Up a b μ μ2 → wM (eTup (aCons (vOr (eVar 8) (eN false (gIn false) (eVar 2) (eTup (aCons (eC (.str [42])) (aCons (eC (.str [63])) aNil))))) (aCons (eVar 6) (aCons (eVar 7) aNil)))) [some (.ref q), some (.tup [.str s, .lst [t]]), some (.str s), some (.lst [t]), none, some (.lst [.tup [.bl e', .int f', .int l']]), some (.int f'), some (.int l'), some (.bl e'), none, none, none] μ2 fun d μ1 => Q (leave μ d μ1).1 (leave μ d μ1).2 := by
    intro fs2 μ2 g1 g2
    simp only [w_bnd, w_ret, w_eC, w_var, w_opS, w_op, w_N, w_CB, w_CS, w_nil, w_cons, w_call, w_if, w_B, w_and, w_or, w_not, w_vAnd, w_vOr, w_vNot, w_neg, w_tup, w_lstF, w_lstC, w_chain, w_fld, w_sl, w_oN, w_oS, w_isLs, w_isSt, w_me, w_meth, w_methS, w_make, w_fmt, w_frz, w_isi, s_seq, s_next, s_set, s_asg, s_expr, s_ret, s_retN, s_if, s_cnt, s_brk, s_no, s_par, s_par3, s_tp, s_gsNil, s_gsCons, s_fld, s_fldT, s_sub, s_aug, s_fldA, s_augS, s_for, w_lc, w_src, w_srcL, w_srcT, w_srcS, w_srcR, w_rng1, wO_some, wO_none, List.getElem?_cons_zero, List.getElem?_cons_succ, List.set_cons_zero, List.set_cons_succ, fin_v, fin_lF, fin_lT]
    refine ⟨_, rfl, ?_⟩
    cases e' with
    | true =>
      simp only [if_true]
      refine ⟨by simp, ?_⟩
      rw [leave_same g2.len]
      exact hQ _ ls' fs2 μ2 ⟨_, _, _, rfl⟩ g1 h4' g2
    | false =>
      simp only [Bool.false_eq_true, if_false]
      refine ⟨by simp, ?_⟩
      simp only [i2, wO_some, fin_v]
      refine ⟨by simp, ?_⟩
      rw [leave_same g2.len]
      exact hQ _ ls' fs2 μ2 ⟨_, _, _, rfl⟩ g1 h4' g2
  split
  · refine ⟨insP_ok' h3.hq, link_ok h3 (by rw [← h3.len]; omega) fun fs2 μ2 g1 g2 => ?_⟩
    have := fin fs2 μ2 g1 (h5.trans hP.ab g2)
    simpa only [w_bnd, w_ret, w_eC, w_var, w_opS, w_op, w_N, w_CB, w_CS, w_nil, w_cons, w_call, w_if, w_B, w_and, w_or, w_not, w_vAnd, w_vOr, w_vNot, w_neg, w_tup, w_lstF, w_lstC, w_chain, w_fld, w_sl, w_oN, w_oS, w_isLs, w_isSt, w_me, w_meth, w_methS, w_make, w_fmt, w_frz, w_isi, s_seq, s_next, s_set, s_asg, s_expr, s_ret, s_retN, s_if, s_cnt, s_brk, s_no, s_par, s_par3, s_tp, s_gsNil, s_gsCons, s_fld, s_fldT, s_sub, s_aug, s_fldA, s_augS, s_for, w_lc, w_src, w_srcL, w_srcT, w_srcS, w_srcR, w_rng1, wO_some, wO_none, List.getElem?_cons_zero, List.getElem?_cons_succ, List.set_cons_zero, List.set_cons_succ, fin_v, fin_lF, fin_lT] using this
  · have := fin fs' μ' h3 h5
    simpa only [w_bnd, w_ret, w_eC, w_var, w_opS, w_op, w_N, w_CB, w_CS, w_nil, w_cons, w_call, w_if, w_B, w_and, w_or, w_not, w_vAnd, w_vOr, w_vNot, w_neg, w_tup, w_lstF, w_lstC, w_chain, w_fld, w_sl, w_oN, w_oS, w_isLs, w_isSt, w_me, w_meth, w_methS, w_make, w_fmt, w_frz, w_isi, s_seq, s_next, s_set, s_asg, s_expr, s_ret, s_retN, s_if, s_cnt, s_brk, s_no, s_par, s_par3, s_tp, s_gsNil, s_gsCons, s_fld, s_fldT, s_sub, s_aug, s_fldA, s_augS, s_for, w_lc, w_src, w_srcL, w_srcT, w_srcS, w_srcR, w_rng1, wO_some, wO_none, List.getElem?_cons_zero, List.getElem?_cons_succ, List.set_cons_zero, List.set_cons_succ, fin_v, fin_lF, fin_lT] using this
end K01

set_option maxRecDepth 100000
set_option maxHeartbeats 1000000
namespace K01
open PySem L2 PyProof.Rows PySem.Spec Ab
theorem LayD.mono {k k' c : Nat} {t : D} (h : LayD k c t) (hk : k ≤ k') : LayD k' c t := fun m μ q a b ls fs Q hm => h m μ q a b ls fs Q (Nat.le_trans hk hm)
theorem LayD.of {k c : Nat} {t : D} (h : c ≤ 900 → LayD k c t) : LayD k c t := fun m μ q a b ls fs Q hm hP hl hQ => h (by omega) m μ q a b ls fs Q hm hP hl hQ
theorem lay_sgT {k c : Nat} {s : List Nat} {t : D} (hs : IsSg s) (h : LayD k c t) : LayD (k + 1) c (sgT s t) := by
  unfold sgT
  split
  · exact h.mono (by omega)
  · rename_i hne
    refine lay_sg ?_ h
    unfold IsSg at hs
    simp [hne] at hs
    simpa using hs
theorem All2.map {α β γ : Type} {R : β → γ → Prop} {f : α → β} {g : α → γ} : ∀ {xs : List α}, (∀ x ∈ xs, R (f x) (g x)) → All2 R (xs.map f) (xs.map g) := by
  intro xs h
  refine ⟨by simp, fun i x y h1 h2 => ?_⟩
  simp only [List.getElem?_map, Option.map_eq_some_iff] at h1 h2
  obtain ⟨a, ha, rfl⟩ := h1
  obtain ⟨b, hb, rfl⟩ := h2
  rw [ha] at hb; cases hb
  exact h a (List.mem_of_getElem? ha)
theorem sum_ge {α : Type} {f : α → Nat} : ∀ {xs : List α}, (∀ x ∈ xs, 1 ≤ f x) → xs.length ≤ (xs.map f).sum
  | [], _ => Nat.zero_le _
  | x :: xs, h => by
    have h1 := h x (by simp)
    have h2 := sum_ge (xs := xs) fun y hy => h y (by simp [hy])
    simp only [List.map_cons, List.sum_cons, List.length_cons]
    omega
theorem it_c : ∀ (n : Nat) (a : At), ItA n a → 1 ≤ a.c
  | 0, a, ⟨s, hs, h⟩ => by
    rcases h with ⟨l, h1, _, _, rfl⟩ | ⟨l, _, _, _, _, rfl⟩ | ⟨as, h, _⟩
    · exact h1
    · exact Nat.le_refl _
    · exact h.elim
  | n + 1, a, ⟨s, hs, h⟩ => by
    rcases h with ⟨l, h1, _, _, rfl⟩ | ⟨l, _, _, _, _, rfl⟩ | ⟨as, h, rfl⟩
    · exact h1
    · exact Nat.le_refl _
    · have hb : ∀ b ∈ as, 1 ≤ b.c := fun b hb => by
        obtain ⟨is, h1, h2, rfl⟩ := h.2 b hb
        have := sum_ge (f := (·.c)) (xs := is) fun i hi => it_c n i (h2 i hi)
        have h3 : 1 ≤ is.length := by
          cases is with
          | nil => exact absurd rfl h1
          | cons _ _ => simp
        exact Nat.le_trans h3 this
      have := sum_ge (f := At.c) hb
      have h3 : 1 ≤ as.length := by
        cases as with
        | nil => exact absurd rfl h.1
        | cons _ _ => simp
      exact Nat.le_trans h3 this
theorem br_c {n : Nat} {as : List At} (h : BrQ (ItA n) as) : ∀ b ∈ as, 1 ≤ b.c := fun b hb => by
  obtain ⟨is, h1, h2, rfl⟩ := h.2 b hb
  have := sum_ge (f := (·.c)) (xs := is) fun i hi => it_c n i (h2 i hi)
  have h3 : 1 ≤ is.length := by
    cases is with
    | nil => exact absurd rfl h1
    | cons _ _ => simp
  exact Nat.le_trans h3 this
theorem lay_branch {k : Nat} {is : List At} (h : ∀ a ∈ is, LayD k a.c a.t) (hc : ∀ a ∈ is, 1 ≤ a.c) : LayD (k + 1) (bAt is).c (bAt is).t := LayD.of fun h9 => by
  have h9' : (is.map (·.c)).sum ≤ 900 := h9
  have : is.length ≤ (is.map (·.c)).sum := sum_ge hc
  exact lay_all (All2.map h) (by rw [List.length_map]; omega)
theorem lay_brs {n k : Nat} {as : List At} (hB : BrQ (ItA n) as) (h : ∀ a, ItA n a → LayD k a.c a.t) : LayD (k + 2) (cB as) (tOr (as.map (·.t))) := LayD.of fun h9 => by
  have h9' : (as.map (·.c)).sum ≤ 900 := h9
  have : as.length ≤ (as.map (·.c)).sum := sum_ge (br_c hB)
  refine lay_or (All2.map fun a ha => ?_) (by rw [List.length_map]; omega)
  obtain ⟨is, h1, h2, rfl⟩ := hB.2 a ha
  exact lay_branch (fun i hi => h i (h2 i hi)) fun i hi => it_c n i (h2 i hi)
theorem lay_text {l : List Nat} (hl : l.length ≤ 6) : LayD 2 l.length (tAll (l.map fun c => tOne [c])) := by
  have hA : All2 (fun t c => LayD 1 c t) (l.map fun c => tOne [c]) (l.map fun _ => 1) := All2.map fun c _ => lay_one [c]
  have e : (l.map fun _ => 1).sum = l.length := by
    clear hl hA
    induction l with
    | nil => rfl
    | cons c l ih => simp only [List.map_cons, List.sum_cons, ih, List.length_cons]; omega
  have := lay_all hA (by rw [List.length_map]; omega)
  rwa [e] at this
theorem lay_it : ∀ (n : Nat) (a : At), ItA n a → LayD (3 * n + 3) a.c a.t
  | 0, a, ⟨s, hs, h⟩ => by
    rcases h with ⟨l, _, h6, _, rfl⟩ | ⟨l, _, _, _, _, rfl⟩ | ⟨as, h, _⟩
    · exact lay_sgT hs (lay_text h6)
    · exact (lay_sgT hs (lay_one l)).mono (by omega)
    · exact h.elim
  | n + 1, a, ⟨s, hs, h⟩ => by
    rcases h with ⟨l, _, h6, _, rfl⟩ | ⟨l, _, _, _, _, rfl⟩ | ⟨as, h, rfl⟩
    · exact (lay_sgT hs (lay_text h6)).mono (by omega)
    · exact (lay_sgT hs (lay_one l)).mono (by omega)
    · exact (lay_sgT hs (lay_brs h fun a ha => lay_it n a ha)).mono (by omega)
theorem lay_pat {n : Nat} {as : List At} (hB : BrQ (ItA n) as) : LayD (3 * n + 5) (cB as) (tOr (as.map (·.t))) := lay_brs hB fun a ha => lay_it n a ha
/-! ### pieces are pieces -/
theorem pc_sg {s : List Nat} (hs : IsSg s) : ∀ p ∈ sgP s, Pc p := by
  unfold IsSg at hs
  simp at hs
  rcases hs with rfl | rfl | rfl | rfl <;> intro p hp <;> simp [sgP] at hp <;> subst hp <;> exact .inl ⟨_, rfl, by decide⟩
theorem pc_brs {n : Nat} {as : List At} (hB : BrQ (ItA n) as) (h : ∀ a, ItA n a → ∀ p ∈ a.ps, Pc p) : ∀ p ∈ psB as, Pc p := by
  intro p hp
  have hp' : p ∈ (as.map fun a => a.ps ++ [[124]]).flatten := List.dropLast_subset _ hp
  obtain ⟨x, hx, hpx⟩ := List.mem_flatten.mp hp'
  obtain ⟨a, ha, rfl⟩ := List.mem_map.mp hx
  rcases List.mem_append.mp hpx with hpx | hpx
  · obtain ⟨is, _, h2, rfl⟩ := hB.2 a ha
    obtain ⟨y, hy, hpy⟩ := List.mem_flatten.mp hpx
    obtain ⟨i, hi, rfl⟩ := List.mem_map.mp hy
    exact h i (h2 i hi) p hpy
  · simp at hpx; subst hpx
    exact .inl ⟨_, rfl, by decide⟩
theorem pc_it : ∀ (n : Nat) (a : At), ItA n a → ∀ p ∈ a.ps, Pc p
  | 0, a, ⟨s, hs, h⟩ => by
    rcases h with ⟨l, h1, h6, hL, rfl⟩ | ⟨l, h1, h8, hA, hL, rfl⟩ | ⟨as, h, _⟩
    · intro p hp
      rcases List.mem_cons.mp hp with rfl | hp
      · exact .inr (.inl ⟨l, rfl, h1, h6, hL⟩)
      · exact pc_sg hs p hp
    · intro p hp
      rcases List.mem_cons.mp hp with rfl | hp
      · exact .inr (.inr ⟨l, rfl, h1, h8, hA, hL⟩)
      · exact pc_sg hs p hp
    · exact h.elim
  | n + 1, a, ⟨s, hs, h⟩ => by
    rcases h with ⟨l, h1, h6, hL, rfl⟩ | ⟨l, h1, h8, hA, hL, rfl⟩ | ⟨as, h, rfl⟩
    · intro p hp
      rcases List.mem_cons.mp hp with rfl | hp
      · exact .inr (.inl ⟨l, rfl, h1, h6, hL⟩)
      · exact pc_sg hs p hp
    · intro p hp
      rcases List.mem_cons.mp hp with rfl | hp
      · exact .inr (.inr ⟨l, rfl, h1, h8, hA, hL⟩)
      · exact pc_sg hs p hp
    · intro p hp
      rcases List.mem_cons.mp hp with rfl | hp
      · exact .inl ⟨_, rfl, by decide⟩
      rcases List.mem_append.mp hp with hp | hp
      · exact pc_brs h (fun a ha => pc_it n a ha) p hp
      rcases List.mem_cons.mp hp with rfl | hp
      · exact .inl ⟨_, rfl, by decide⟩
      · exact pc_sg hs p hp
theorem pc_pat {n : Nat} {as : List At} (hB : BrQ (ItA n) as) : ∀ p ∈ psB as, Pc p := pc_brs hB fun a ha => pc_it n a ha
end K01

set_option maxRecDepth 100000
set_option maxHeartbeats 1000000
namespace K01
open PySem L2 PyProof.Rows PySem.Spec Ab
/-! ### the shown text -/
def stops : List (List Nat) := [[41], [42], [43], [63]]
def gapS (last p : List Nat) : List Nat := if last ≠ [40] ∧ p ∉ stops then [32] else []
def shw (last : List Nat) : List (List Nat) → List Nat
  | [] => []
  | p :: ps => gapS last p ++ p ++ shw p ps
theorem nin_strs {μ : Sto} {p : List Nat} {ss : List (List Nat)} : gIn true (.str p) (.tup (ss.map .str)) μ = some (.v (.bl (!decide (p ∈ ss)))) := by
  have e1 : (ss.map D.str).all flatD = true := by
    rw [List.all_map]; exact List.all_eq_true.mpr fun _ _ => rfl
  have e2 : ((ss.map D.str).any fun y => eqF y (.str p)) = decide (p ∈ ss) := by
    rw [List.any_map, Bool.eq_iff_iff]
    simp [eqF]
  have : gInQ true (.str p) (.tup (ss.map .str)) μ = some (.v (.bl (!decide (p ∈ ss)))) := by
    simp only [gInQ, asSeq]
    rw [e1, e2]
    simp [flatD]
  simp only [gIn, this]
theorem shown_ok {μ : Sto} {ps : List (List Nat)} {Q : D → Sto → Prop} (hl : (shw [40] ps).length ≤ 900000) (hQ : Q (.str (shw [40] ps)) μ) : wF F_shown [.lst (psS ps)] μ Q := by
  unfold F_shown
  rw [f_body]
  refine ⟨rfl, ?_⟩
  show wS _ [some (.lst (psS ps)), none, none, none] μ _
  unfold m_shown
  refine q_seq (fun Γ' μ' => Γ' = [some (.lst (psS ps)), some (.str []), some (.str [40]), none] ∧ μ' = μ) ?_ ?_
  · simp only [w_bnd, w_ret, w_eC, w_var, w_opS, w_op, w_N, w_CB, w_CS, w_nil, w_cons, w_call, w_if, w_B, w_and, w_or, w_not, w_vAnd, w_vOr, w_vNot, w_neg, w_tup, w_lstF, w_lstC, w_chain, w_fld, w_sl, w_oN, w_oS, w_isLs, w_isSt, w_me, w_meth, w_methS, w_make, w_fmt, w_frz, w_isi, s_seq, s_next, s_set, s_asg, s_expr, s_ret, s_retN, s_if, s_cnt, s_brk, s_no, s_par, s_par3, s_tp, s_gsNil, s_gsCons, s_fld, s_fldT, s_sub, s_aug, s_fldA, s_augS, s_for, w_lc, w_src, w_srcL, w_srcT, w_srcS, w_srcR, w_rng1, wO_some, wO_none, List.getElem?_cons_zero, List.getElem?_cons_succ, List.set_cons_zero, List.set_cons_succ, fin_v, fin_lF, fin_lT]
    refine ⟨by simp, _, rfl, rfl, ?_⟩
    simp only [w_bnd, w_ret, w_eC, w_var, w_opS, w_op, w_N, w_CB, w_CS, w_nil, w_cons, w_call, w_if, w_B, w_and, w_or, w_not, w_vAnd, w_vOr, w_vNot, w_neg, w_tup, w_lstF, w_lstC, w_chain, w_fld, w_sl, w_oN, w_oS, w_isLs, w_isSt, w_me, w_meth, w_methS, w_make, w_fmt, w_frz, w_isi, s_seq, s_next, s_set, s_asg, s_expr, s_ret, s_retN, s_if, s_cnt, s_brk, s_no, s_par, s_par3, s_tp, s_gsNil, s_gsCons, s_fld, s_fldT, s_sub, s_aug, s_fldA, s_augS, s_for, w_lc, w_src, w_srcL, w_srcT, w_srcS, w_srcR, w_rng1, wO_some, wO_none, List.getElem?_cons_zero, List.getElem?_cons_succ, List.set_cons_zero, List.set_cons_succ, fin_v, fin_lF, fin_lT]
    exact ⟨by first | trivial | rfl, by first | trivial | rfl⟩
  rintro Γ' μ' ⟨rfl, rfl⟩
  refine q_seq (fun Γ' μ1 => ∃ x2 x3, Γ' = [some (.lst (psS ps)), some (.str (shw [40] ps)), x2, x3] ∧ μ1 = μ') ?_ ?_
  · rw [s_for, w_src]
    simp only [w_var, List.getElem?_cons_zero, wO_some, w_srcL]
    refine s_fix (fun i Γ' μ1 => ∃ f last x3, Γ' = [some (.lst (psS ps)), some (.str f), some (.str last), x3] ∧ μ1 = μ' ∧ f ++ shw last (ps.drop i) = shw [40] ps) ⟨[], [40], none, rfl, rfl, rfl⟩ ?_ ?_
    · rintro i d Γ1 μ1 hd ⟨f, last, x3, rfl, rfl, hf⟩
      have hi : i < ps.length := by
        have := (List.getElem?_eq_some_iff.mp hd).1
        simpa [psS] using this
      have hd' : d = .str ps[i] := by
        simp [psS, hi] at hd
        exact hd.symm
      subst hd'
      have hcons : ps.drop i = ps[i] :: ps.drop (i + 1) := List.drop_eq_getElem_cons hi
      rw [hcons] at hf
      have hf' : f ++ (gapS last ps[i] ++ ps[i] ++ shw ps[i] (ps.drop (i + 1))) = shw [40] ps := hf
      have hlen := congrArg List.length hf'
      simp only [List.length_append] at hlen
      have n4 := nin_strs (μ := μ1) (p := ps[i]) (ss := [[41], [42], [43], [63]])
      simp only [List.map_cons, List.map_nil] at n4
      have pls : fPlus (.str (f ++ gapS last ps[i])) (.str ps[i]) μ1 = some (.str (f ++ gapS last ps[i] ++ ps[i]), μ1) := f_plusS (by simp [big]; omega)
      have fin : wS (sSeq (sAug 1 fPlus (eVar 3)) (sAsg (eVar 3) (sSet 2))) [some (.lst (psS ps)), some (.str (f ++ gapS last ps[i])), some (.str last), some (.str ps[i])] μ1 { n := fun Γ' μ1_1 => ∃ f last x3, Γ' = [some (.lst (psS ps)), some (.str f), some (.str last), x3] ∧ μ1_1 = μ1 ∧ f ++ shw last (ps.drop (i + 1)) = shw [40] ps, r := fun d μ1_1 => Q (leave μ1 d μ1_1).1 (leave μ1 d μ1_1).2, b := fun Γ' μ2 => ∃ x2 x3, Γ' = [some (.lst (psS ps)), some (.str (shw [40] ps)), x2, x3] ∧ μ2 = μ1, c := fun Γ' μ1_1 => ∃ f last x3, Γ' = [some (.lst (psS ps)), some (.str f), some (.str last), x3] ∧ μ1_1 = μ1 ∧ f ++ shw last (ps.drop (i + 1)) = shw [40] ps } := by
        simp only [w_bnd, w_ret, w_eC, w_var, w_opS, w_op, w_N, w_CB, w_CS, w_nil, w_cons, w_call, w_if, w_B, w_and, w_or, w_not, w_vAnd, w_vOr, w_vNot, w_neg, w_tup, w_lstF, w_lstC, w_chain, w_fld, w_sl, w_oN, w_oS, w_isLs, w_isSt, w_me, w_meth, w_methS, w_make, w_fmt, w_frz, w_isi, s_seq, s_next, s_set, s_asg, s_expr, s_ret, s_retN, s_if, s_cnt, s_brk, s_no, s_par, s_par3, s_tp, s_gsNil, s_gsCons, s_fld, s_fldT, s_sub, s_aug, s_fldA, s_augS, s_for, w_lc, w_src, w_srcL, w_srcT, w_srcS, w_srcR, w_rng1, wO_some, wO_none, List.getElem?_cons_zero, List.getElem?_cons_succ, List.set_cons_zero, List.set_cons_succ, fin_v, fin_lF, fin_lT, pls]
        refine ⟨_, _, _, rfl, by first | trivial | rfl, ?_⟩
        rw [← hf']
        simp
      rw [s_set]
      dsimp only
      simp only [List.set_cons_succ, List.set_cons_zero]
      refine q_seq (fun Γ' μ2 => Γ' = [some (.lst (psS ps)), some (.str (f ++ gapS last ps[i])), some (.str last), some (.str ps[i])] ∧ μ2 = μ1) ?_ ?_
      · by_cases h1 : last = [40]
        · have e1 : gEq true (.str last) (.str [40]) μ1 = some (.v (.bl false)) := by rw [o_eqS]; simp [h1]
          have e2 : gapS last ps[i] = [] := by simp [gapS, h1]
          simp only [w_bnd, w_ret, w_eC, w_var, w_opS, w_op, w_N, w_CB, w_CS, w_nil, w_cons, w_call, w_if, w_B, w_and, w_or, w_not, w_vAnd, w_vOr, w_vNot, w_neg, w_tup, w_lstF, w_lstC, w_chain, w_fld, w_sl, w_oN, w_oS, w_isLs, w_isSt, w_me, w_meth, w_methS, w_make, w_fmt, w_frz, w_isi, s_seq, s_next, s_set, s_asg, s_expr, s_ret, s_retN, s_if, s_cnt, s_brk, s_no, s_par, s_par3, s_tp, s_gsNil, s_gsCons, s_fld, s_fldT, s_sub, s_aug, s_fldA, s_augS, s_for, w_lc, w_src, w_srcL, w_srcT, w_srcS, w_srcR, w_rng1, wO_some, wO_none, List.getElem?_cons_zero, List.getElem?_cons_succ, List.set_cons_zero, List.set_cons_succ, fin_v, fin_lF, fin_lT, e1]
          refine ⟨_, rfl, ?_⟩
          simp only [Bool.false_eq_true, if_false]
          rw [e2]
          exact ⟨by simp, by first | trivial | rfl⟩
        · have e1 : gEq true (.str last) (.str [40]) μ1 = some (.v (.bl true)) := by rw [o_eqS]; simp [h1]
          simp only [w_bnd, w_ret, w_eC, w_var, w_opS, w_op, w_N, w_CB, w_CS, w_nil, w_cons, w_call, w_if, w_B, w_and, w_or, w_not, w_vAnd, w_vOr, w_vNot, w_neg, w_tup, w_lstF, w_lstC, w_chain, w_fld, w_sl, w_oN, w_oS, w_isLs, w_isSt, w_me, w_meth, w_methS, w_make, w_fmt, w_frz, w_isi, s_seq, s_next, s_set, s_asg, s_expr, s_ret, s_retN, s_if, s_cnt, s_brk, s_no, s_par, s_par3, s_tp, s_gsNil, s_gsCons, s_fld, s_fldT, s_sub, s_aug, s_fldA, s_augS, s_for, w_lc, w_src, w_srcL, w_srcT, w_srcS, w_srcR, w_rng1, wO_some, wO_none, List.getElem?_cons_zero, List.getElem?_cons_succ, List.set_cons_zero, List.set_cons_succ, fin_v, fin_lF, fin_lT, e1]
          refine ⟨_, rfl, ?_⟩
          simp only [if_true]
          refine ⟨by simp, ?_⟩
          simp only [n4, wO_some, fin_v]
          refine ⟨_, rfl, ?_⟩
          by_cases h2 : ps[i] ∈ stops
          · have e2 : gapS last ps[i] = [] := by simp [gapS, h2]
            have h2' : ps[i] ∈ ([[41], [42], [43], [63]] : List (List Nat)) := h2
            rw [decide_eq_true h2', e2]
            simp only [Bool.not_true, Bool.false_eq_true, if_false]
            exact ⟨by simp, by first | trivial | rfl⟩
          · have e2 : gapS last ps[i] = [32] := by simp [gapS, h1, h2]
            have h2' : ps[i] ∉ ([[41], [42], [43], [63]] : List (List Nat)) := h2
            rw [decide_eq_false h2', e2]
            simp only [Bool.not_false, if_true]
            rw [e2] at hlen
            rw [f_plusS (by simp [big]; simp at hlen; omega), wO_some]
            exact ⟨by first | trivial | rfl, by first | trivial | rfl⟩
      rintro Γ2 μ2 ⟨rfl, rfl⟩
      exact fin
    · rintro Γ1 μ1 ⟨f, last, x3, rfl, rfl, hf⟩
      have e : ps.drop (psS ps).length = [] := List.drop_eq_nil_of_le (by rw [psS_len]; exact Nat.le_refl _)
      rw [e] at hf
      have : f = shw [40] ps := by simpa [shw] using hf
      subst this
      exact ⟨_, _, rfl, rfl⟩
  rintro Γ' μ1 ⟨x2, x3, rfl, rfl⟩
  simp only [w_bnd, w_ret, w_eC, w_var, w_opS, w_op, w_N, w_CB, w_CS, w_nil, w_cons, w_call, w_if, w_B, w_and, w_or, w_not, w_vAnd, w_vOr, w_vNot, w_neg, w_tup, w_lstF, w_lstC, w_chain, w_fld, w_sl, w_oN, w_oS, w_isLs, w_isSt, w_me, w_meth, w_methS, w_make, w_fmt, w_frz, w_isi, s_seq, s_next, s_set, s_asg, s_expr, s_ret, s_retN, s_if, s_cnt, s_brk, s_no, s_par, s_par3, s_tp, s_gsNil, s_gsCons, s_fld, s_fldT, s_sub, s_aug, s_fldA, s_augS, s_for, w_lc, w_src, w_srcL, w_srcT, w_srcS, w_srcR, w_rng1, wO_some, wO_none, List.getElem?_cons_zero, List.getElem?_cons_succ, List.set_cons_zero, List.set_cons_succ, fin_v, fin_lF, fin_lT]
  rw [leave_same rfl]
  exact hQ
theorem sp_shw : ∀ {ps : List (List Nat)} (last : List Nat), (∀ p ∈ ps, Pc p) → Sp ps (shw last ps)
  | [], _, _ => .nil
  | p :: ps, last, h => by
    have ih := sp_shw p (ps := ps) fun q hq => h q (by simp [hq])
    have h1 : Sp (p :: ps) (p ++ shw p ps) := .pc (h p (by simp)) ih
    show Sp (p :: ps) (gapS last p ++ p ++ shw p ps)
    rw [List.append_assoc]
    unfold gapS
    split
    · exact .sp h1
    · exact h1
/-! ### it is the written one -/
def spL (last : List Nat) : List Nat := if last = [40] then [] else [32]
def lastP (last : List Nat) (ps : List (List Nat)) : List Nat := ps.getLast?.getD last
theorem shw_app : ∀ (last : List Nat) (xs ys : List (List Nat)), shw last (xs ++ ys) = shw last xs ++ shw (lastP last xs) ys
  | last, [], ys => rfl
  | last, x :: xs, ys => by
    show gapS last x ++ x ++ shw x (xs ++ ys) = (gapS last x ++ x ++ shw x xs) ++ shw (lastP last (x :: xs)) ys
    rw [shw_app x xs ys]
    have : lastP last (x :: xs) = lastP x xs := by
      cases xs with
      | nil => rfl
      | cons y ys => simp [lastP, List.getLast?_cons_cons, List.getLast?_eq_some_getLast]
    rw [this]
    simp
theorem lastP_app {last : List Nat} {xs ys : List (List Nat)} (h : ys ≠ []) : lastP last (xs ++ ys) = lastP [] ys := by
  unfold lastP
  rw [List.getLast?_append]
  have : ys.getLast? = some (ys.getLast h) := List.getLast?_eq_some_getLast h
  rw [this]; rfl
theorem gap_no {last p : List Nat} (h : p ∉ stops) : gapS last p = spL last := by
  unfold gapS spL
  by_cases hl : last = [40] <;> simp [hl, h]
theorem gap_st {last p : List Nat} (h : p ∈ stops) : gapS last p = [] := by
  unfold gapS
  simp [h]
theorem sgP_stop {s : List Nat} (hs : IsSg s) : ∀ last, shw last (sgP s) = s := by
  unfold IsSg at hs
  simp at hs
  intro last
  rcases hs with rfl | rfl | rfl | rfl
  · rfl
  · show gapS last [42] ++ [42] ++ [] = [42]
    rw [gap_st (by decide)]; rfl
  · show gapS last [43] ++ [43] ++ [] = [43]
    rw [gap_st (by decide)]; rfl
  · show gapS last [63] ++ [63] ++ [] = [63]
    rw [gap_st (by decide)]; rfl
/-- shown behind any piece, and it does not end with an opening -/
def ShOk (ps : List (List Nat)) (w : List Nat) : Prop := ps ≠ [] ∧ (∀ last, shw last ps = spL last ++ w) ∧ lastP [] ps ≠ [40]
theorem lastP_cons {last p : List Nat} {ps : List (List Nat)} : lastP last (p :: ps) = lastP [] (p :: ps) := by
  unfold lastP
  have : (p :: ps).getLast? = some ((p :: ps).getLast (by simp)) := List.getLast?_eq_some_getLast (by simp)
  rw [this]; rfl
theorem lastP_ne {last : List Nat} {ps : List (List Nat)} (h : ps ≠ []) : lastP last ps = lastP [] ps := by
  cases ps with
  | nil => exact absurd rfl h
  | cons p ps => exact lastP_cons
theorem sh_sg {p s : List Nat} (hs : IsSg s) (hp : p ∉ stops) (h40 : p ≠ [40]) : ShOk (p :: sgP s) (p ++ s) := by
  refine ⟨by simp, fun last => ?_, ?_⟩
  · show gapS last p ++ p ++ shw p (sgP s) = _
    rw [sgP_stop hs, gap_no hp]
    simp
  · unfold IsSg at hs
    simp at hs
    rcases hs with rfl | rfl | rfl | rfl
    · exact h40
    · simp [sgP, lastP]
    · simp [sgP, lastP]
    · simp [sgP, lastP]
theorem sh_items {is : List At} : is ≠ [] → (∀ a ∈ is, ShOk a.ps a.w) → ShOk (bAt is).ps (bAt is).w := by
  intro hne h
  induction is with
  | nil => exact absurd rfl hne
  | cons a is ih =>
    obtain ⟨h1, h2, h3⟩ := h a (by simp)
    cases is with
    | nil =>
      have e1 : (bAt [a]).ps = a.ps := by simp [bAt]
      have e2 : (bAt [a]).w = a.w := by simp [bAt, TL.joinL]
      rw [e1, e2]
      exact ⟨h1, h2, h3⟩
    | cons b is =>
      obtain ⟨g1, g2, g3⟩ := ih (by simp) fun c hc => h c (by simp [hc])
      have e1 : (bAt (a :: b :: is)).ps = a.ps ++ (bAt (b :: is)).ps := by simp [bAt]
      have e2 : (bAt (a :: b :: is)).w = a.w ++ [32] ++ (bAt (b :: is)).w := by simp [bAt, TL.joinL]
      rw [e1, e2]
      refine ⟨by simp [h1], fun last => ?_, ?_⟩
      · rw [shw_app, h2, g2]
        have : spL (lastP last a.ps) = [32] := by
          unfold spL
          rw [lastP_ne h1, if_neg h3]
        rw [this]
        simp
      · rw [lastP_app g1]
        exact g3
theorem shw_brs {as : List At} : as ≠ [] → (∀ a ∈ as, ShOk a.ps a.w) → ShOk (psB as) (wB as) := by
  intro hne h
  induction as with
  | nil => exact absurd rfl hne
  | cons a as ih =>
    obtain ⟨h1, h2, h3⟩ := h a (by simp)
    cases as with
    | nil =>
      have e1 : psB [a] = a.ps := by rw [psB_cons]; simp
      have e2 : wB [a] = a.w := by simp [wB, TL.joinL]
      rw [e1, e2]
      exact ⟨h1, h2, h3⟩
    | cons b as =>
      obtain ⟨g1, g2, g3⟩ := ih (by simp) fun c hc => h c (by simp [hc])
      have e1 : psB (a :: b :: as) = a.ps ++ ([124] :: psB (b :: as)) := by
        rw [psB_cons, psB_cons]; simp
      have e2 : wB (a :: b :: as) = a.w ++ [32, 124, 32] ++ wB (b :: as) := by simp [wB, TL.joinL]
      rw [e1, e2]
      refine ⟨by simp [h1], fun last => ?_, ?_⟩
      · rw [shw_app, h2]
        have : spL (lastP last a.ps) = [32] := by
          unfold spL
          rw [lastP_ne h1, if_neg h3]
        show _ ++ (gapS (lastP last a.ps) [124] ++ [124] ++ shw [124] (psB (b :: as))) = _
        rw [gap_no (by decide), this, g2]
        simp [spL]
      · rw [lastP_app (by simp), show [124] :: psB (b :: as) = [[124]] ++ psB (b :: as) from rfl, lastP_app g1]
        exact g3
theorem sh_group {as : List At} {s : List Nat} (hs : IsSg s) (h : ShOk (psB as) (wB as)) : ShOk ([40] :: (psB as ++ [41] :: sgP s)) ((40 :: wB as ++ [41]) ++ s) := by
  obtain ⟨h1, h2, h3⟩ := h
  refine ⟨by simp, fun last => ?_, ?_⟩
  · show gapS last [40] ++ [40] ++ shw [40] (psB as ++ [41] :: sgP s) = _
    rw [shw_app, h2, gap_no (by decide)]
    show spL last ++ [40] ++ (spL [40] ++ wB as ++ (gapS (lastP [40] (psB as)) [41] ++ [41] ++ shw [41] (sgP s))) = _
    rw [gap_st (by decide), sgP_stop hs]
    simp [spL]
  · have e : [40] :: (psB as ++ [41] :: sgP s) = ([40] :: psB as) ++ ([41] :: sgP s) := by simp
    rw [e, lastP_app (by simp)]
    unfold IsSg at hs
    simp at hs
    rcases hs with rfl | rfl | rfl | rfl <;> simp [sgP, lastP]
theorem shw_it : ∀ (n : Nat) (a : At), ItA n a → ShOk a.ps a.w := by
  intro n
  have txt : ∀ (c e : Nat) (l s : List Nat), IsSg s → 1 ≤ l.length → ShOk ((c :: l ++ [e]) :: sgP s) ((c :: l ++ [e]) ++ s) := fun c e l s hs hl => by
    have h2 : 2 ≤ (c :: l ++ [e]).length := by simp
    refine sh_sg hs (fun h => ?_) (fun h => ?_)
    · have : ∀ p ∈ stops, p.length = 1 := by decide
      have := this _ h
      omega
    · rw [h] at h2
      simp at h2
  induction n with
  | zero =>
    rintro a ⟨s, hs, ⟨l, h1, _, _, rfl⟩ | ⟨l, h1, _, _, _, rfl⟩ | ⟨as, h, _⟩⟩
    · exact txt 34 34 l s hs h1
    · exact txt 91 93 l s hs h1
    · exact h.elim
  | succ n ih =>
    rintro a ⟨s, hs, ⟨l, h1, _, _, rfl⟩ | ⟨l, h1, _, _, _, rfl⟩ | ⟨as, h, rfl⟩⟩
    · exact txt 34 34 l s hs h1
    · exact txt 91 93 l s hs h1
    · refine sh_group hs (shw_brs h.1 fun a ha => ?_)
      obtain ⟨is, h1, h2, rfl⟩ := h.2 a ha
      exact sh_items h1 fun i hi => ih i (h2 i hi)
theorem sh_pat {n : Nat} {as : List At} (hB : BrQ (ItA n) as) : shw [40] (psB as) = wB as := by
  have : ShOk (psB as) (wB as) := shw_brs hB.1 fun a ha => by
    obtain ⟨is, h1, h2, rfl⟩ := hB.2 a ha
    exact sh_items h1 fun i hi => shw_it n i (h2 i hi)
  rw [this.2.1]
  simp [spL]
theorem sp_pat {n : Nat} {as : List At} (hB : BrQ (ItA n) as) : Sp (psB as) (wB as) := by
  rw [← sh_pat hB]
  exact sp_shw [40] (pc_pat hB)
end K01

set_option maxRecDepth 100000
set_option maxHeartbeats 1000000
namespace K01
open PySem L2 PyProof.Rows PySem.Spec Ab
/-! ### patterns as objects -/
theorem wF_eq {f : Fn} {ds : List D} {μ μ' : Sto} {d : D} (h : wF f ds μ fun x ν => x = d ∧ ν = μ') : f ds μ = some (.ok d μ') := by
  obtain ⟨d', ν, e, rfl, rfl⟩ := h.get
  exact e
/-- what is made young hangs on an old cell: nothing is dropped -/
theorem leave_keep {μ μ' : Sto} {d : D} {k : Nat} {o : O} (hk : k < μ.length) (h1 : μ'[k]? = some o) (h2 : μ[k]? ≠ some o) (h3 : refsO μ.length o = false) : leave μ d μ' = (d, μ') := by
  unfold leave
  rw [if_neg]
  rintro ⟨_, ht, _⟩
  rcases ht k o hk h1 with h | h
  · exact h2 h
  · rw [h3] at h; cases h
structure Pat (μ : Sto) (s : Nat) (ps : List (List Nat)) (c : Nat) (w : List Nat) : Prop where
  ex : ∃ tree q a b ls fs e l, μ[s]? = some (.ins 2 [.lst (psS ps), tree, .ref q, .bl e, .int l, .str w]) ∧ Pl μ q a b ls fs ∧ ls.length = c + 1
  lw : ∀ p ∈ ps, Low p
  c9 : c ≤ 900
theorem Pl.app {μ l : Sto} {q a b : Nat} {ls : List (List Nat)} {fs : List Int} (h : Pl μ q a b ls fs) : Pl (μ ++ l) q a b ls fs :=
  ⟨by rw [List.getElem?_append_left (lt_at h.hq)]; exact h.hq, by rw [List.getElem?_append_left (lt_at h.ha)]; exact h.ha, by rw [List.getElem?_append_left (lt_at h.hb)]; exact h.hb, h.ab, h.qa, h.qb, h.len⟩
theorem Pat.app {μ l : Sto} {s c : Nat} {ps : List (List Nat)} {w : List Nat} (h : Pat μ s ps c w) : Pat (μ ++ l) s ps c w := by
  obtain ⟨⟨tree, q, a, b, ls, fs, e, l', h1, h2, h3⟩, hl, hc⟩ := h
  exact ⟨⟨tree, q, a, b, ls, fs, e, l', by rw [List.getElem?_append_left (lt_at h1)]; exact h1, h2.app, h3⟩, hl, hc⟩
theorem cut_tail (l : List D) : cutL l (some 1) none = l.drop 1 := by
  unfold cutL
  have e0 : HT.sIx l.length 0 (some 1) = min 1 l.length := rfl
  have e1 : HT.sIx l.length l.length none = l.length := rfl
  rw [e0, e1]
  cases l with
  | nil => rfl
  | cons c l =>
    have : min 1 (c :: l).length = 1 := by simp
    rw [this]
    exact List.take_of_length_le (by simp)
theorem len_go {μ : Sto} {s q a b c : Nat} {ls : List (List Nat)} {fs : List Int} {ds : List D} {Q : D → Sto → Prop} (h : μ[s]? = some (.ins 2 ds)) (hd : ds[2]? = some (.ref q)) (hP : Pl μ q a b ls fs) (hc : ls.length = c + 1) (hQ : Q (.int (c : Int)) μ) : wF F_Pattern_len [.ref s] μ Q := by
  unfold F_Pattern_len
  rw [f_body]
  refine ⟨rfl, ?_⟩
  show wS _ [some (.ref s)] μ _
  unfold m_Pattern_len
  have g2 : getF [(2, 2)] (.ref s) μ = some (.ref q) := o_getF h hd
  have g0 : getF [(1, 0)] (.ref q) μ = some (.ref a) := o_getF hP.hq rfl
  have e1 : gSl (.ref a) (some 1) none μ = some (.l ((psS ls).drop 1)) := by
    simp only [gSl, l_ref hP.ha, Option.map_some]
    rw [cut_tail]
  simp only [w_bnd, w_ret, w_eC, w_var, w_opS, w_op, w_N, w_CB, w_CS, w_nil, w_cons, w_call, w_if, w_B, w_and, w_or, w_not, w_vAnd, w_vOr, w_vNot, w_neg, w_tup, w_lstF, w_lstC, w_chain, w_fld, w_sl, w_oN, w_oS, w_isLs, w_isSt, w_me, w_meth, w_methS, w_make, w_fmt, w_frz, w_isi, s_seq, s_next, s_set, s_asg, s_expr, s_ret, s_retN, s_if, s_cnt, s_brk, s_no, s_par, s_par3, s_tp, s_gsNil, s_gsCons, s_fld, s_fldT, s_sub, s_aug, s_fldA, s_augS, s_for, w_lc, w_src, w_srcL, w_srcT, w_srcS, w_srcR, w_rng1, wO_some, wO_none, List.getElem?_cons_zero, List.getElem?_cons_succ, List.set_cons_zero, List.set_cons_succ, fin_v, fin_lF, fin_lT, g2, g0]
  refine ⟨_, rfl, ?_⟩
  simp only [e1, wO_some, fin_lF, o_lenL, fin_v]
  rw [leave_same rfl]
  have : ((psS ls).drop 1).length = c := by simp [psS, hc]
  rw [this]
  exact hQ
theorem one_len {μ : Sto} {s q a b c : Nat} {ls : List (List Nat)} {fs : List Int} {ds : List D} (h : μ[s]? = some (.ins 2 ds)) (hd : ds[2]? = some (.ref q)) (hP : Pl μ q a b ls fs) (hc : ls.length = c + 1) (h9 : c ≤ 900) : gOne 2 F_Pattern_len natP [.ref s] μ = some (.int (c : Int), μ) := by
  have hlen := wF_eq (len_go h hd hP hc ⟨rfl, rfl⟩)
  simp only [gOne, insP_ok' h, if_true, hlen, gRet]
  rw [if_pos (by simp [natP]; omega)]
theorem init_ok {n : Nat} {as : List At} {t : List Nat} {μ : Sto} {Q : Sto → Prop} (hB : BrQ (ItA n) as) (hn : n ≤ 4) (hc : cB as ≤ 10) (hS : Sp (psB as) t) (hl : t.length ≤ 100000) (hw : (wB as).length ≤ 900000)
    (hQ : ∀ l, Pat (μ ++ l) μ.length (psB as) (cB as) (wB as) → Q (μ ++ l)) : wF F_Pattern_init [.ref μ.length, .str t] (μ ++ [.ins 2 []]) fun d μ2 => d = .non ∧ Q μ2 := by
  have hlow : ∀ p ∈ psB as, Low p := fun p hp => (pc_pat hB p hp).low
  have hpl : (psB as).length ≤ t.length := by
    have : ∀ {ps : List (List Nat)} {t : List Nat}, Sp ps t → ps.length ≤ t.length := by
      intro ps t h
      induction h with
      | nil => simp
      | sp _ ih => simp; omega
      | pc hp _ ih => have := hp.len; simp; omega
    exact this hS
  have hN : μ.length = μ.length := rfl
  unfold F_Pattern_init
  rw [f_body]
  refine ⟨rfl, ?_⟩
  show wS _ [some (.ref μ.length), some (.str t), none] (μ ++ [.ins 2 []]) _
  unfold m_Pattern_init
  -- is it a text
  refine q_seq (fun Γ' μ' => Γ' = [some (.ref μ.length), some (.str t), none] ∧ μ' = μ ++ [.ins 2 []]) ?_ ?_
  · simp only [w_bnd, w_ret, w_eC, w_var, w_opS, w_op, w_N, w_CB, w_CS, w_nil, w_cons, w_call, w_if, w_B, w_and, w_or, w_not, w_vAnd, w_vOr, w_vNot, w_neg, w_tup, w_lstF, w_lstC, w_chain, w_fld, w_sl, w_oN, w_oS, w_isLs, w_isSt, w_me, w_meth, w_methS, w_make, w_fmt, w_frz, w_isi, s_seq, s_next, s_set, s_asg, s_expr, s_ret, s_retN, s_if, s_cnt, s_brk, s_no, s_par, s_par3, s_tp, s_gsNil, s_gsCons, s_fld, s_fldT, s_sub, s_aug, s_fldA, s_augS, s_for, w_lc, w_src, w_srcL, w_srcT, w_srcS, w_srcR, w_rng1, wO_some, wO_none, List.getElem?_cons_zero, List.getElem?_cons_succ, List.set_cons_zero, List.set_cons_succ, fin_v, fin_lF, fin_lT]
    have e1 : ∀ ν, tyD ν (.str t) = some (.bt "str") := fun _ => rfl
    have e2 : lkT isi_str (.bt "str") = some true := by simp [lkT, isi_str]
    simp only [e1, wO_some, e2]
    refine ⟨rfl, _, rfl, ?_⟩
    simp only [Bool.not_true, Bool.false_eq_true, if_false]
    exact ⟨by first | trivial | rfl, by first | trivial | rfl⟩
  rintro Γ' μ' ⟨rfl, rfl⟩
  -- pieces
  refine q_seq (fun Γ' μ' => Γ' = [some (.ref μ.length), some (.str t), none] ∧ μ' = μ ++ [.ins 2 [.lst (psS (psB as))]]) ?_ ?_
  · simp only [w_bnd, w_ret, w_eC, w_var, w_opS, w_op, w_N, w_CB, w_CS, w_nil, w_cons, w_call, w_if, w_B, w_and, w_or, w_not, w_vAnd, w_vOr, w_vNot, w_neg, w_tup, w_lstF, w_lstC, w_chain, w_fld, w_sl, w_oN, w_oS, w_isLs, w_isSt, w_me, w_meth, w_methS, w_make, w_fmt, w_frz, w_isi, s_seq, s_next, s_set, s_asg, s_expr, s_ret, s_retN, s_if, s_cnt, s_brk, s_no, s_par, s_par3, s_tp, s_gsNil, s_gsCons, s_fld, s_fldT, s_sub, s_aug, s_fldA, s_augS, s_for, w_lc, w_src, w_srcL, w_srcT, w_srcS, w_srcR, w_rng1, wO_some, wO_none, List.getElem?_cons_zero, List.getElem?_cons_succ, List.set_cons_zero, List.set_cons_succ, fin_v, fin_lF, fin_lT]
    refine pieces_of_ok hS (by omega) ?_
    rw [o_newF (c := 2) (i := 0) (ds := []) (by rw [new_at0 hN]; rfl) rfl, wO_some, new_set0 hN]
    exact ⟨by first | trivial | rfl, by first | trivial | rfl⟩
  rintro Γ' μ' ⟨rfl, rfl⟩
  -- the tree
  refine q_seq (fun Γ' μ' => Γ' = [some (.ref μ.length), some (.str t), none] ∧ μ' = μ ++ [.ins 2 [.lst (psS (psB as)), tOr (as.map (·.t))], rdO (psB as) (psB as).length]) ?_ ?_
  · have g0 : getF [(2, 0)] (.ref μ.length) (μ ++ [.ins 2 [.lst (psS (psB as))]]) = some (.lst (psS (psB as))) := o_getF (by rw [new_at0 hN]; rfl) rfl
    simp only [w_bnd, w_ret, w_eC, w_var, w_opS, w_op, w_N, w_CB, w_CS, w_nil, w_cons, w_call, w_if, w_B, w_and, w_or, w_not, w_vAnd, w_vOr, w_vNot, w_neg, w_tup, w_lstF, w_lstC, w_chain, w_fld, w_sl, w_oN, w_oS, w_isLs, w_isSt, w_me, w_meth, w_methS, w_make, w_fmt, w_frz, w_isi, s_seq, s_next, s_set, s_asg, s_expr, s_ret, s_retN, s_if, s_cnt, s_brk, s_no, s_par, s_par3, s_tp, s_gsNil, s_gsCons, s_fld, s_fldT, s_sub, s_aug, s_fldA, s_augS, s_for, w_lc, w_src, w_srcL, w_srcT, w_srcS, w_srcR, w_rng1, wO_some, wO_none, List.getElem?_cons_zero, List.getElem?_cons_succ, List.set_cons_zero, List.set_cons_succ, fin_v, fin_lF, fin_lT, g0]
    have e1 : (μ ++ [O.ins 2 [.lst (psS (psB as))]]).length = μ.length + 1 := by simp
    have e2 : (μ ++ [O.ins 2 [.lst (psS (psB as))]]) ++ [O.ins 0 []] = μ ++ [.ins 2 [.lst (psS (psB as))], .ins 0 []] := by simp
    rw [e1, e2]
    have hinit : wF F_Reader_init [.ref (μ.length + 1), .lst (psS (psB as))] (μ ++ [.ins 2 [.lst (psS (psB as))], .ins 0 []]) fun d ν => d = .non ∧ ν = μ ++ [.ins 2 [.lst (psS (psB as))], rdO (psB as) 0] := by
      unfold F_Reader_init
      rw [f_body]
      refine ⟨rfl, ?_⟩
      show wS _ [some (.ref (μ.length + 1)), some (.lst (psS (psB as)))] _ _
      unfold m_Reader_init
      simp only [w_bnd, w_ret, w_eC, w_var, w_opS, w_op, w_N, w_CB, w_CS, w_nil, w_cons, w_call, w_if, w_B, w_and, w_or, w_not, w_vAnd, w_vOr, w_vNot, w_neg, w_tup, w_lstF, w_lstC, w_chain, w_fld, w_sl, w_oN, w_oS, w_isLs, w_isSt, w_me, w_meth, w_methS, w_make, w_fmt, w_frz, w_isi, s_seq, s_next, s_set, s_asg, s_expr, s_ret, s_retN, s_if, s_cnt, s_brk, s_no, s_par, s_par3, s_tp, s_gsNil, s_gsCons, s_fld, s_fldT, s_sub, s_aug, s_fldA, s_augS, s_for, w_lc, w_src, w_srcL, w_srcT, w_srcS, w_srcR, w_rng1, wO_some, wO_none, List.getElem?_cons_zero, List.getElem?_cons_succ, List.set_cons_zero, List.set_cons_succ, fin_v, fin_lF, fin_lT]
      rw [o_newF (c := 0) (i := 0) (ds := []) (by rw [new_at hN]; rfl) rfl, wO_some, new_set hN]
      simp only [List.set_cons_succ, List.set_cons_zero, List.nil_append]
      rw [o_newF (c := 0) (i := 1) (ds := [.lst (psS (psB as))]) (by rw [new_at hN]; rfl) rfl, wO_some, new_set hN]
      simp only [List.set_cons_succ, List.set_cons_zero]
      rw [leave_same (by simp)]
      exact ⟨rfl, rfl⟩
    refine hinit.imp fun d ν ⟨h1, h2⟩ => ⟨h1, ?_⟩
    subst h2
    have hr : (μ ++ [O.ins 2 [.lst (psS (psB as))], rdO (psB as) 0])[μ.length + 1]? = some (rdO (psB as) 0) := by rw [new_at hN]; rfl
    refine ⟨insP_ok' hr, whole_ok hB hn hr (by omega) ?_⟩
    rw [new_set hN]
    simp only [List.set_cons_succ, List.set_cons_zero]
    rw [o_newF (c := 2) (i := 1) (ds := [.lst (psS (psB as))]) (by rw [new_at0 hN]; rfl) rfl, wO_some, new_set0 hN]
    exact ⟨by first | trivial | rfl, by first | trivial | rfl⟩
  rintro Γ' μ' ⟨rfl, rfl⟩
  -- the places
  refine q_seq (fun Γ' μ' => Γ' = [some (.ref μ.length), some (.str t), none] ∧ μ' = μ ++ [.ins 2 [.lst (psS (psB as)), tOr (as.map (·.t)), .ref (μ.length + 2)], rdO (psB as) (psB as).length, plO (μ.length + 3) (μ.length + 4), .lst [.str []], .lst [.int 0]]) ?_ ?_
  · simp only [w_bnd, w_ret, w_eC, w_var, w_opS, w_op, w_N, w_CB, w_CS, w_nil, w_cons, w_call, w_if, w_B, w_and, w_or, w_not, w_vAnd, w_vOr, w_vNot, w_neg, w_tup, w_lstF, w_lstC, w_chain, w_fld, w_sl, w_oN, w_oS, w_isLs, w_isSt, w_me, w_meth, w_methS, w_make, w_fmt, w_frz, w_isi, s_seq, s_next, s_set, s_asg, s_expr, s_ret, s_retN, s_if, s_cnt, s_brk, s_no, s_par, s_par3, s_tp, s_gsNil, s_gsCons, s_fld, s_fldT, s_sub, s_aug, s_fldA, s_augS, s_for, w_lc, w_src, w_srcL, w_srcT, w_srcS, w_srcR, w_rng1, wO_some, wO_none, List.getElem?_cons_zero, List.getElem?_cons_succ, List.set_cons_zero, List.set_cons_succ, fin_v, fin_lF, fin_lT]
    have e1 : (μ ++ [O.ins 2 [.lst (psS (psB as)), tOr (as.map (·.t))], rdO (psB as) (psB as).length]).length = μ.length + 2 := by simp
    have e2 : (μ ++ [O.ins 2 [.lst (psS (psB as)), tOr (as.map (·.t))], rdO (psB as) (psB as).length]) ++ [O.ins 1 []] = μ ++ [.ins 2 [.lst (psS (psB as)), tOr (as.map (·.t))], rdO (psB as) (psB as).length, .ins 1 []] := by simp
    rw [e1, e2]
    have hinit : wF F_Places_init [.ref (μ.length + 2)] (μ ++ [.ins 2 [.lst (psS (psB as)), tOr (as.map (·.t))], rdO (psB as) (psB as).length, .ins 1 []]) fun d ν => d = .non ∧ ν = μ ++ [.ins 2 [.lst (psS (psB as)), tOr (as.map (·.t))], rdO (psB as) (psB as).length, plO (μ.length + 3) (μ.length + 4), .lst [.str []], .lst [.int 0]] := by
      unfold F_Places_init
      rw [f_body]
      refine ⟨rfl, ?_⟩
      show wS _ [some (.ref (μ.length + 2))] _ _
      unfold m_Places_init
      simp only [w_bnd, w_ret, w_eC, w_var, w_opS, w_op, w_N, w_CB, w_CS, w_nil, w_cons, w_call, w_if, w_B, w_and, w_or, w_not, w_vAnd, w_vOr, w_vNot, w_neg, w_tup, w_lstF, w_lstC, w_chain, w_fld, w_sl, w_oN, w_oS, w_isLs, w_isSt, w_me, w_meth, w_methS, w_make, w_fmt, w_frz, w_isi, s_seq, s_next, s_set, s_asg, s_expr, s_ret, s_retN, s_if, s_cnt, s_brk, s_no, s_par, s_par3, s_tp, s_gsNil, s_gsCons, s_fld, s_fldT, s_sub, s_aug, s_fldA, s_augS, s_for, w_lc, w_src, w_srcL, w_srcT, w_srcS, w_srcR, w_rng1, wO_some, wO_none, List.getElem?_cons_zero, List.getElem?_cons_succ, List.set_cons_zero, List.set_cons_succ, fin_v, fin_lF, fin_lT]
      refine ⟨by simp, ?_⟩
      have e3 : (μ ++ [O.ins 2 [.lst (psS (psB as)), tOr (as.map (·.t))], rdO (psB as) (psB as).length, .ins 1 []]).length = μ.length + 3 := by simp
      rw [e3, List.append_assoc]
      simp only [List.cons_append, List.nil_append]
      rw [o_newF (c := 1) (i := 0) (ds := []) (by rw [new_at hN]; rfl) rfl, wO_some, new_set hN]
      simp only [List.set_cons_succ, List.set_cons_zero, List.nil_append]
      refine ⟨by simp, ?_⟩
      have e4 : (μ ++ [O.ins 2 [.lst (psS (psB as)), tOr (as.map (·.t))], rdO (psB as) (psB as).length, .ins 1 [.ref (μ.length + 3)], .lst [.str []]]).length = μ.length + 4 := by simp
      rw [e4, List.append_assoc]
      simp only [List.cons_append, List.nil_append]
      rw [o_newF (c := 1) (i := 1) (ds := [.ref (μ.length + 3)]) (by rw [new_at hN]; rfl) rfl, wO_some, new_set hN]
      simp only [List.set_cons_succ, List.set_cons_zero, List.cons_append, List.nil_append]
      rw [leave_keep (k := μ.length + 2) (o := plO (μ.length + 3) (μ.length + 4)) (by simp) (by rw [new_at hN]; rfl) (by rw [new_at hN]; simp [plO]) (by simp [plO, refsO, refsLts, refsLt])]
      exact ⟨rfl, rfl⟩
    refine hinit.imp fun d ν ⟨h1, h2⟩ => ⟨h1, ?_⟩
    subst h2
    rw [o_newF (c := 2) (i := 2) (ds := [.lst (psS (psB as)), tOr (as.map (·.t))]) (by rw [new_at0 hN]; rfl) rfl, wO_some, new_set0 hN]
    exact ⟨by first | trivial | rfl, by first | trivial | rfl⟩
  rintro Γ' μ' ⟨rfl, rfl⟩
  -- laid
  refine q_seq (fun Γ' μ' => ∃ e f l ls fs A B, Γ' = [some (.ref μ.length), some (.str t), some (.int f)] ∧ μ' = μ ++ [.ins 2 [.lst (psS (psB as)), tOr (as.map (·.t)), .ref (μ.length + 2), .bl e, .int l], rdO (psB as) (psB as).length, plO (μ.length + 3) (μ.length + 4), A, B] ∧ Pl μ' (μ.length + 2) (μ.length + 3) (μ.length + 4) ls fs ∧ ls.length = cB as + 1) ?_ ?_
  · have g2 : getF [(2, 2)] (.ref μ.length) (μ ++ [.ins 2 [.lst (psS (psB as)), tOr (as.map (·.t)), .ref (μ.length + 2)], rdO (psB as) (psB as).length, plO (μ.length + 3) (μ.length + 4), .lst [.str []], .lst [.int 0]]) = some (.ref (μ.length + 2)) := o_getF (by rw [new_at0 hN]; rfl) rfl
    have g1 : getF [(2, 1)] (.ref μ.length) (μ ++ [.ins 2 [.lst (psS (psB as)), tOr (as.map (·.t)), .ref (μ.length + 2)], rdO (psB as) (psB as).length, plO (μ.length + 3) (μ.length + 4), .lst [.str []], .lst [.int 0]]) = some (tOr (as.map (·.t))) := o_getF (by rw [new_at0 hN]; rfl) rfl
    have hP : Pl (μ ++ [.ins 2 [.lst (psS (psB as)), tOr (as.map (·.t)), .ref (μ.length + 2)], rdO (psB as) (psB as).length, plO (μ.length + 3) (μ.length + 4), .lst [.str []], .lst [.int 0]]) (μ.length + 2) (μ.length + 3) (μ.length + 4) [[]] [0] :=
      ⟨by rw [new_at hN]; rfl, by rw [new_at hN]; rfl, by rw [new_at hN]; rfl, by omega, by omega, by omega, rfl⟩
    simp only [w_bnd, w_ret, w_eC, w_var, w_opS, w_op, w_N, w_CB, w_CS, w_nil, w_cons, w_call, w_if, w_B, w_and, w_or, w_not, w_vAnd, w_vOr, w_vNot, w_neg, w_tup, w_lstF, w_lstC, w_chain, w_fld, w_sl, w_oN, w_oS, w_isLs, w_isSt, w_me, w_meth, w_methS, w_make, w_fmt, w_frz, w_isi, s_seq, s_next, s_set, s_asg, s_expr, s_ret, s_retN, s_if, s_cnt, s_brk, s_no, s_par, s_par3, s_tp, s_gsNil, s_gsCons, s_fld, s_fldT, s_sub, s_aug, s_fldA, s_augS, s_for, w_lc, w_src, w_srcL, w_srcT, w_srcS, w_srcR, w_rng1, wO_some, wO_none, List.getElem?_cons_zero, List.getElem?_cons_succ, List.set_cons_zero, List.set_cons_succ, fin_v, fin_lF, fin_lT, g2, g1]
    refine ⟨insP_ok' hP.hq, ?_⟩
    refine lay_pat hB 40 _ _ _ _ _ _ _ (by omega) hP (by simp; omega) fun d ls' fs' μ' hd hP' hls hU => ?_
    obtain ⟨e, f, l, rfl⟩ := hd
    obtain ⟨A, B, rfl⟩ := hU
    rw [new_set hN, new_set hN] at hP' ⊢
    simp only [List.set_cons_succ, List.set_cons_zero] at hP' ⊢
    refine ⟨_, rfl, rfl, ?_⟩
    simp only [w_bnd, w_ret, w_eC, w_var, w_opS, w_op, w_N, w_CB, w_CS, w_nil, w_cons, w_call, w_if, w_B, w_and, w_or, w_not, w_vAnd, w_vOr, w_vNot, w_neg, w_tup, w_lstF, w_lstC, w_chain, w_fld, w_sl, w_oN, w_oS, w_isLs, w_isSt, w_me, w_meth, w_methS, w_make, w_fmt, w_frz, w_isi, s_seq, s_next, s_set, s_asg, s_expr, s_ret, s_retN, s_if, s_cnt, s_brk, s_no, s_par, s_par3, s_tp, s_gsNil, s_gsCons, s_fld, s_fldT, s_sub, s_aug, s_fldA, s_augS, s_for, w_lc, w_src, w_srcL, w_srcT, w_srcS, w_srcR, w_rng1, wO_some, wO_none, List.getElem?_cons_zero, List.getElem?_cons_succ, List.set_cons_zero, List.set_cons_succ, fin_v, fin_lF, fin_lT]
    rw [o_newF (c := 2) (i := 3) (ds := [.lst (psS (psB as)), tOr (as.map (·.t)), .ref (μ.length + 2)]) (by rw [new_at0 hN]; rfl) rfl, wO_some, new_set0 hN]
    simp only [w_bnd, w_ret, w_eC, w_var, w_opS, w_op, w_N, w_CB, w_CS, w_nil, w_cons, w_call, w_if, w_B, w_and, w_or, w_not, w_vAnd, w_vOr, w_vNot, w_neg, w_tup, w_lstF, w_lstC, w_chain, w_fld, w_sl, w_oN, w_oS, w_isLs, w_isSt, w_me, w_meth, w_methS, w_make, w_fmt, w_frz, w_isi, s_seq, s_next, s_set, s_asg, s_expr, s_ret, s_retN, s_if, s_cnt, s_brk, s_no, s_par, s_par3, s_tp, s_gsNil, s_gsCons, s_fld, s_fldT, s_sub, s_aug, s_fldA, s_augS, s_for, w_lc, w_src, w_srcL, w_srcT, w_srcS, w_srcR, w_rng1, wO_some, wO_none, List.getElem?_cons_zero, List.getElem?_cons_succ, List.set_cons_zero, List.set_cons_succ, fin_v, fin_lF, fin_lT, List.cons_append, List.nil_append]
    rw [o_newF (c := 2) (i := 4) (ds := [.lst (psS (psB as)), tOr (as.map (·.t)), .ref (μ.length + 2), .bl e]) (by rw [new_at0 hN]; rfl) rfl, wO_some, new_set0 hN]
    simp only [List.set_cons_succ, List.set_cons_zero, List.cons_append, List.nil_append]
    refine ⟨e, f, l, ls', fs', A, B, by first | trivial | rfl, by first | trivial | rfl, ?_, by rw [hls]; simp; omega⟩
    have ha := hP'.ha
    have hb := hP'.hb
    rw [new_at hN] at ha hb
    exact ⟨by rw [new_at hN]; rfl, by rw [new_at hN]; exact ha, by rw [new_at hN]; exact hb, by omega, by omega, by omega, hP'.len⟩
  rintro Γ' μ' ⟨e, f, l, ls, fs, A, B, rfl, rfl, hP, hls⟩
  -- not too many
  refine q_seq (fun Γ' μ' => Γ' = [some (.ref μ.length), some (.str t), some (.int f)] ∧ μ' = μ ++ [.ins 2 [.lst (psS (psB as)), tOr (as.map (·.t)), .ref (μ.length + 2), .bl e, .int l], rdO (psB as) (psB as).length, plO (μ.length + 3) (μ.length + 4), A, B]) ?_ ?_
  · have hat : (μ ++ [O.ins 2 [.lst (psS (psB as)), tOr (as.map (·.t)), .ref (μ.length + 2), .bl e, .int l], rdO (psB as) (psB as).length, plO (μ.length + 3) (μ.length + 4), A, B])[μ.length]? = some (.ins 2 [.lst (psS (psB as)), tOr (as.map (·.t)), .ref (μ.length + 2), .bl e, .int l]) := by rw [new_at0 hN]; rfl
    have hone := one_len hat rfl hP hls (by omega)
    simp only [w_bnd, w_ret, w_eC, w_var, w_opS, w_op, w_N, w_CB, w_CS, w_nil, w_cons, w_call, w_if, w_B, w_and, w_or, w_not, w_vAnd, w_vOr, w_vNot, w_neg, w_tup, w_lstF, w_lstC, w_chain, w_fld, w_sl, w_oN, w_oS, w_isLs, w_isSt, w_me, w_meth, w_methS, w_make, w_fmt, w_frz, w_isi, s_seq, s_next, s_set, s_asg, s_expr, s_ret, s_retN, s_if, s_cnt, s_brk, s_no, s_par, s_par3, s_tp, s_gsNil, s_gsCons, s_fld, s_fldT, s_sub, s_aug, s_fldA, s_augS, s_for, w_lc, w_src, w_srcL, w_srcT, w_srcS, w_srcR, w_rng1, wO_some, wO_none, List.getElem?_cons_zero, List.getElem?_cons_succ, List.set_cons_zero, List.set_cons_succ, fin_v, fin_lF, fin_lT, hone, o_gt]
    refine ⟨_, rfl, ?_⟩
    rw [decide_eq_false (by omega)]
    simp only [Bool.false_eq_true, if_false]
    exact ⟨by first | trivial | rfl, by first | trivial | rfl⟩
  rintro Γ' μ' ⟨rfl, rfl⟩
  -- linked
  refine q_seq (fun Γ' μ' => ∃ fs A B, Γ' = [some (.ref μ.length), some (.str t), some (.int f)] ∧ μ' = μ ++ [.ins 2 [.lst (psS (psB as)), tOr (as.map (·.t)), .ref (μ.length + 2), .bl e, .int l], rdO (psB as) (psB as).length, plO (μ.length + 3) (μ.length + 4), A, B] ∧ Pl μ' (μ.length + 2) (μ.length + 3) (μ.length + 4) ls fs) ?_ ?_
  · have g2 : getF [(2, 2)] (.ref μ.length) (μ ++ [O.ins 2 [.lst (psS (psB as)), tOr (as.map (·.t)), .ref (μ.length + 2), .bl e, .int l], rdO (psB as) (psB as).length, plO (μ.length + 3) (μ.length + 4), A, B]) = some (.ref (μ.length + 2)) := o_getF (by rw [new_at0 hN]; rfl) rfl
    simp only [w_bnd, w_ret, w_eC, w_var, w_opS, w_op, w_N, w_CB, w_CS, w_nil, w_cons, w_call, w_if, w_B, w_and, w_or, w_not, w_vAnd, w_vOr, w_vNot, w_neg, w_tup, w_lstF, w_lstC, w_chain, w_fld, w_sl, w_oN, w_oS, w_isLs, w_isSt, w_me, w_meth, w_methS, w_make, w_fmt, w_frz, w_isi, s_seq, s_next, s_set, s_asg, s_expr, s_ret, s_retN, s_if, s_cnt, s_brk, s_no, s_par, s_par3, s_tp, s_gsNil, s_gsCons, s_fld, s_fldT, s_sub, s_aug, s_fldA, s_augS, s_for, w_lc, w_src, w_srcL, w_srcT, w_srcS, w_srcR, w_rng1, wO_some, wO_none, List.getElem?_cons_zero, List.getElem?_cons_succ, List.set_cons_zero, List.set_cons_succ, fin_v, fin_lF, fin_lT, g2]
    refine ⟨insP_ok' hP.hq, link_ok hP (by rw [← hP.len]; omega) fun fs' μ' hP' hU => ?_⟩
    obtain ⟨A', B', rfl⟩ := hU
    rw [new_set hN, new_set hN] at hP' ⊢
    simp only [List.set_cons_succ, List.set_cons_zero] at hP' ⊢
    exact ⟨fs', A', B', by first | trivial | rfl, by first | trivial | rfl, hP'⟩
  rintro Γ' μ' ⟨fs', A', B', rfl, rfl, hP'⟩
  have g0 : getF [(2, 0)] (.ref μ.length) (μ ++ [O.ins 2 [.lst (psS (psB as)), tOr (as.map (·.t)), .ref (μ.length + 2), .bl e, .int l], rdO (psB as) (psB as).length, plO (μ.length + 3) (μ.length + 4), A', B']) = some (.lst (psS (psB as))) := o_getF (by rw [new_at0 hN]; rfl) rfl
  have hsh := sh_pat hB
  simp only [w_bnd, w_ret, w_eC, w_var, w_opS, w_op, w_N, w_CB, w_CS, w_nil, w_cons, w_call, w_if, w_B, w_and, w_or, w_not, w_vAnd, w_vOr, w_vNot, w_neg, w_tup, w_lstF, w_lstC, w_chain, w_fld, w_sl, w_oN, w_oS, w_isLs, w_isSt, w_me, w_meth, w_methS, w_make, w_fmt, w_frz, w_isi, s_seq, s_next, s_set, s_asg, s_expr, s_ret, s_retN, s_if, s_cnt, s_brk, s_no, s_par, s_par3, s_tp, s_gsNil, s_gsCons, s_fld, s_fldT, s_sub, s_aug, s_fldA, s_augS, s_for, w_lc, w_src, w_srcL, w_srcT, w_srcS, w_srcR, w_rng1, wO_some, wO_none, List.getElem?_cons_zero, List.getElem?_cons_succ, List.set_cons_zero, List.set_cons_succ, fin_v, fin_lF, fin_lT, g0]
  refine shown_ok (by rw [hsh]; exact hw) ?_
  rw [hsh, o_newF (c := 2) (i := 5) (ds := [.lst (psS (psB as)), tOr (as.map (·.t)), .ref (μ.length + 2), .bl e, .int l]) (by rw [new_at0 hN]; rfl) rfl, wO_some, new_set0 hN]
  simp only [List.set_cons_zero, List.cons_append, List.nil_append]
  rw [leave_keep (k := μ.length) (o := .ins 2 [.lst (psS (psB as)), tOr (as.map (·.t)), .ref (μ.length + 2), .bl e, .int l, .str (wB as)]) (by simp) (by rw [new_at0 hN]; rfl) (by rw [new_at0 hN]; simp) (by
    simp [refsO, refsLts, refsLt])]
  refine ⟨rfl, hQ _ ⟨⟨tOr (as.map (·.t)), μ.length + 2, μ.length + 3, μ.length + 4, ls, fs', e, l, by rw [new_at0 hN]; rfl, ?_, hls⟩, hlow, by omega⟩⟩
  have ha := hP'.ha
  have hb := hP'.hb
  rw [new_at hN] at ha hb
  exact ⟨by rw [new_at hN]; rfl, by rw [new_at hN]; exact ha, by rw [new_at hN]; exact hb, by omega, by omega, by omega, hP'.len⟩
end K01

set_option maxRecDepth 100000
set_option maxHeartbeats 1000000
namespace K01
open PySem L2 PyProof.Rows PySem.Spec Ab
/-! ### how many pieces -/
theorem sum_map_le {α : Type} {f g : α → Nat} : ∀ {xs : List α}, (∀ x ∈ xs, f x ≤ g x) → (xs.map f).sum ≤ (xs.map g).sum
  | [], _ => Nat.le_refl _
  | x :: xs, h => by
    have h1 := h x (by simp)
    have h2 := sum_map_le (xs := xs) fun y hy => h y (by simp [hy])
    simp only [List.map_cons, List.sum_cons]
    omega
theorem sum_mul {α : Type} {f : α → Nat} {k : Nat} : ∀ {xs : List α}, (xs.map fun x => k * f x).sum = k * (xs.map f).sum
  | [] => rfl
  | x :: xs => by
    simp only [List.map_cons, List.sum_cons, sum_mul (xs := xs), Nat.mul_add]
theorem flat_sum {is : List At} : (is.map (·.ps)).flatten.length = (is.map fun a => a.ps.length).sum := by
  rw [List.length_flatten, List.map_map]; rfl
theorem psB_sum {as : List At} : (psB as).length ≤ (as.map fun a => a.ps.length + 1).sum := by
  have h : (psB as).length ≤ ((as.map fun a => a.ps ++ [[124]]).flatten).length := by
    unfold psB; rw [List.length_dropLast]; omega
  rw [List.length_flatten, List.map_map] at h
  refine Nat.le_trans h (Nat.le_of_eq ?_)
  congr 1
  refine List.map_congr_left fun a _ => ?_
  simp
theorem br_ps {n k : Nat} {as : List At} (hB : BrQ (ItA n) as) (h : ∀ a, ItA n a → a.ps.length ≤ k * a.c) : (psB as).length ≤ (k + 1) * cB as := by
  refine Nat.le_trans psB_sum ?_
  have : (as.map fun a => a.ps.length + 1).sum ≤ (as.map fun a => (k + 1) * a.c).sum := sum_map_le fun a ha => by
    have hc := br_c hB a ha
    obtain ⟨is, h1, h2, rfl⟩ := hB.2 a ha
    have h3 : (bAt is).ps.length ≤ k * (bAt is).c := by
      show (is.map (·.ps)).flatten.length ≤ k * (is.map (·.c)).sum
      rw [flat_sum, ← sum_mul]
      exact sum_map_le fun i hi => h i (h2 i hi)
    rw [Nat.add_mul, Nat.one_mul]
    omega
  rw [sum_mul] at this
  exact this
theorem it_ps : ∀ (n : Nat) (a : At), ItA n a → a.ps.length ≤ (4 * n + 2) * a.c := by
  intro n
  have one : ∀ (k c : Nat) (p : List Nat) (s : List Nat), IsSg s → 1 ≤ c → (p :: sgP s).length ≤ (4 * k + 2) * c := fun k c p s hs hc => by
    have := sgP_len hs
    have h2 : (4 * k + 2) * 1 ≤ (4 * k + 2) * c := Nat.mul_le_mul_left _ hc
    simp only [List.length_cons]
    omega
  induction n with
  | zero =>
    rintro a ⟨s, hs, ⟨l, h1, _, _, rfl⟩ | ⟨l, h1, _, _, _, rfl⟩ | ⟨as, h, _⟩⟩
    · exact one 0 _ _ _ hs h1
    · exact one 0 1 _ _ hs (Nat.le_refl _)
    · exact h.elim
  | succ n ih =>
    rintro a ⟨s, hs, ⟨l, h1, _, _, rfl⟩ | ⟨l, h1, _, _, _, rfl⟩ | ⟨as, h, rfl⟩⟩
    · exact one _ _ _ _ hs h1
    · exact one _ 1 _ _ hs (Nat.le_refl _)
    · have h1 := br_ps h ih
      have h2 := sgP_len hs
      have h3 : 1 ≤ cB as := it_c (n + 1) _ ⟨s, hs, .inr (.inr ⟨as, h, rfl⟩)⟩
      show ([40] :: (psB as ++ [41] :: sgP s)).length ≤ (4 * (n + 1) + 2) * cB as
      simp only [List.length_cons, List.length_append]
      have e : (4 * (n + 1) + 2) * cB as = (4 * n + 2 + 1) * cB as + 3 * cB as := by
        rw [← Nat.add_mul]; congr 1
      omega
theorem pat_ps {n : Nat} {as : List At} (hB : BrQ (ItA n) as) (hn : n ≤ 4) (hc : cB as ≤ 10) : (psB as).length ≤ 190 := by
  have h := br_ps hB (it_ps n)
  have h2 : (4 * n + 2 + 1) * cB as ≤ 19 * 10 := Nat.mul_le_mul (by omega) hc
  omega
theorem shw_len : ∀ {ps : List (List Nat)} (last : List Nat), (∀ p ∈ ps, Pc p) → (shw last ps).length ≤ 11 * ps.length
  | [], _, _ => Nat.le_refl _
  | p :: ps, last, h => by
    have ih := shw_len p (ps := ps) fun q hq => h q (by simp [hq])
    have hp := (h p (by simp)).len
    show (gapS last p ++ p ++ shw p ps).length ≤ _
    have : (gapS last p).length ≤ 1 := by unfold gapS; split <;> simp
    simp only [List.length_append, List.length_cons]
    omega
theorem pat_w {n : Nat} {as : List At} (hB : BrQ (ItA n) as) (hn : n ≤ 4) (hc : cB as ≤ 10) : (wB as).length ≤ 3000 := by
  rw [← sh_pat hB]
  have h1 := shw_len [40] (pc_pat hB)
  have h2 := pat_ps hB hn hc
  omega
/-! ### spaces are drawn -/
theorem rep_flat (n : Nat) : (List.replicate n ([32] : List Nat)).flatten = List.replicate n 32 := by
  induction n with
  | zero => rfl
  | succ n ih => simp [List.replicate_succ, ih]
theorem o_blanks {μ : Sto} {j : Nat} (h : j ≤ 10) : gMul (.str [32]) (.int (j : Int)) μ = some (.v (.str (List.replicate j 32))) := by
  rw [o_mulS ⟨by omega, by omega, by simp [big]; omega⟩, rep_flat]
  have : (j : Int).toNat = j := by omega
  rw [this]
theorem spaced_ok {μ l : Sto} {k n : Nat} {ps : List (List Nat)} {Q : D → Sto → Prop} (hB : Bag μ k n) (hn : n < 40000000000) (hp : ∀ p ∈ ps, Pc p) (hl : ps.length ≤ 1000)
    (hQ : ∀ t o, Sp ps t → t.length ≤ 13000 → Bag (μ.set k o) k (n + 1001) → Q (.str t) (μ.set k o ++ l)) : wF F_l_spaced [.ref k, .lst (psS ps)] (μ ++ l) Q := by
  unfold F_l_spaced
  rw [f_body]
  refine ⟨rfl, ?_⟩
  show wS _ [some (.ref k), some (.lst (psS ps)), none, none] (μ ++ l) _
  unfold m_l_spaced
  refine q_seq (fun Γ' μ' => Γ' = [some (.ref k), some (.lst (psS ps)), some (.str []), none] ∧ μ' = μ ++ l) ?_ ?_
  · simp only [w_bnd, w_ret, w_eC, w_var, w_opS, w_op, w_N, w_CB, w_CS, w_nil, w_cons, w_call, w_if, w_B, w_and, w_or, w_not, w_vAnd, w_vOr, w_vNot, w_neg, w_tup, w_lstF, w_lstC, w_chain, w_fld, w_sl, w_oN, w_oS, w_isLs, w_isSt, w_me, w_meth, w_methS, w_make, w_fmt, w_frz, w_isi, s_seq, s_next, s_set, s_asg, s_expr, s_ret, s_retN, s_if, s_cnt, s_brk, s_no, s_par, s_par3, s_tp, s_gsNil, s_gsCons, s_fld, s_fldT, s_sub, s_aug, s_fldA, s_augS, s_for, w_lc, w_src, w_srcL, w_srcT, w_srcS, w_srcR, w_rng1, wO_some, wO_none, List.getElem?_cons_zero, List.getElem?_cons_succ, List.set_cons_zero, List.set_cons_succ, fin_v, fin_lF, fin_lT]
    exact ⟨by first | trivial | rfl, by first | trivial | rfl⟩
  rintro Γ' μ' ⟨rfl, rfl⟩
  refine q_seq (fun Γ' μ' => ∃ o t x3, Γ' = [some (.ref k), some (.lst (psS ps)), some (.str t), x3] ∧ μ' = μ.set k o ++ l ∧ Bag (μ.set k o) k (n + ps.length) ∧ Sp ps t ∧ t.length ≤ 12 * ps.length) ?_ ?_
  · rw [s_for, w_src]
    simp only [w_var, List.getElem?_cons_zero, List.getElem?_cons_succ, wO_some, w_srcL]
    refine s_fix (fun i Γ' μ' => ∃ o t x3, Γ' = [some (.ref k), some (.lst (psS ps)), some (.str t), x3] ∧ μ' = μ.set k o ++ l ∧ Bag (μ.set k o) k (n + i) ∧ Sp (ps.take i) t ∧ t.length ≤ 12 * i) ?_ ?_ ?_
    · obtain ⟨o, eo⟩ := bag_set hB
      exact ⟨o, [], none, rfl, by rw [eo], by rw [eo]; exact hB, .nil, Nat.zero_le _⟩
    · rintro i d Γ1 μ1 hd ⟨o, t, x3, rfl, rfl, hB1, hS, ht⟩
      have hi : i < ps.length := by
        have := (List.getElem?_eq_some_iff.mp hd).1
        simpa [psS] using this
      have hd' : d = .str ps[i] := by
        simp [psS, hi] at hd
        exact hd.symm
      subst hd'
      have hpi := hp _ (List.getElem_mem hi)
      have hpl := hpi.len
      simp only [w_bnd, w_ret, w_eC, w_var, w_opS, w_op, w_N, w_CB, w_CS, w_nil, w_cons, w_call, w_if, w_B, w_and, w_or, w_not, w_vAnd, w_vOr, w_vNot, w_neg, w_tup, w_lstF, w_lstC, w_chain, w_fld, w_sl, w_oN, w_oS, w_isLs, w_isSt, w_me, w_meth, w_methS, w_make, w_fmt, w_frz, w_isi, s_seq, s_next, s_set, s_asg, s_expr, s_ret, s_retN, s_if, s_cnt, s_brk, s_no, s_par, s_par3, s_tp, s_gsNil, s_gsCons, s_fld, s_fldT, s_sub, s_aug, s_fldA, s_augS, s_for, w_lc, w_src, w_srcL, w_srcT, w_srcS, w_srcR, w_rng1, wO_some, wO_none, List.getElem?_cons_zero, List.getElem?_cons_succ, List.set_cons_zero, List.set_cons_succ, fin_v, fin_lF, fin_lT]
      refine ⟨by simp, of_ok hB1.app (by simp) (by omega) fun j x o' hx hB2 => ?_⟩
      rw [old_set hB1.lt, List.set_set] at hB2 ⊢
      obtain ⟨m, rfl, hm⟩ : ∃ m : Nat, x = .int (m : Int) ∧ m ≤ 2 := by
        rcases j with _ | _ | _ | _ | j <;> simp at hx
        · exact ⟨0, hx.symm, by omega⟩
        · exact ⟨0, hx.symm, by omega⟩
        · exact ⟨1, hx.symm, by omega⟩
        · exact ⟨2, hx.symm, by omega⟩
      have a1 : ∀ ν, gAdd (.str t) (.str (List.replicate m 32)) ν = some (.v (.str (t ++ List.replicate m 32))) := fun ν => o_addS (by simp [big]; omega)
      have a2 : ∀ ν, gAdd (.str (t ++ List.replicate m 32)) (.str ps[i]) ν = some (.v (.str (t ++ List.replicate m 32 ++ ps[i]))) := fun ν => o_addS (by simp [big]; omega)
      simp only [o_blanks (show m ≤ 10 by omega), wO_some, fin_v, a1, a2]
      refine ⟨o', _, _, rfl, by first | trivial | rfl, ?_, ?_, ?_⟩
      · have := hB2.left (l := l) (by simpa using hB.lt)
        exact this.mono (by omega)
      · rw [take_snoc (List.getElem?_eq_getElem hi), List.append_assoc]
        exact hS.app ((Sp.one hpi).spaces m)
      · simp; omega
    · rintro Γ1 μ1 ⟨o, t, x3, rfl, rfl, hB1, hS, ht⟩
      rw [psS_len] at hB1 hS ht
      rw [List.take_length] at hS
      exact ⟨o, t, x3, rfl, rfl, hB1, hS, ht⟩
  rintro Γ' μ' ⟨o, t, x3, rfl, rfl, hB1, hS, ht⟩
  simp only [w_bnd, w_ret, w_eC, w_var, w_opS, w_op, w_N, w_CB, w_CS, w_nil, w_cons, w_call, w_if, w_B, w_and, w_or, w_not, w_vAnd, w_vOr, w_vNot, w_neg, w_tup, w_lstF, w_lstC, w_chain, w_fld, w_sl, w_oN, w_oS, w_isLs, w_isSt, w_me, w_meth, w_methS, w_make, w_fmt, w_frz, w_isi, s_seq, s_next, s_set, s_asg, s_expr, s_ret, s_retN, s_if, s_cnt, s_brk, s_no, s_par, s_par3, s_tp, s_gsNil, s_gsCons, s_fld, s_fldT, s_sub, s_aug, s_fldA, s_augS, s_for, w_lc, w_src, w_srcL, w_srcT, w_srcS, w_srcR, w_rng1, wO_some, wO_none, List.getElem?_cons_zero, List.getElem?_cons_succ, List.set_cons_zero, List.set_cons_succ, fin_v, fin_lF, fin_lT]
  refine take_ok' hB1 (by decide) (by omega) fun r o' h0 h1 hB2 => ?_
  rw [List.set_set] at hB2 ⊢
  obtain ⟨j, rfl⟩ := nat_of h0 h1
  have a1 : ∀ ν, gAdd (.str t) (.str (List.replicate j 32)) ν = some (.v (.str (t ++ List.replicate j 32))) := fun ν => o_addS (by simp [big]; omega)
  simp only [o_blanks (show j ≤ 10 by omega), wO_some, fin_v, a1]
  rw [leave_same (by simp)]
  refine hQ _ o' ?_ (by simp; omega) (hB2.mono (by omega))
  have := hS.app (Sp.nil.spaces j)
  simpa using this
/-! ### str, ==, != of patterns -/
theorem one_len' {μ : Sto} {s c : Nat} {ps : List (List Nat)} {w : List Nat} (h : Pat μ s ps c w) : gOne 2 F_Pattern_len natP [.ref s] μ = some (.int (c : Int), μ) := by
  obtain ⟨⟨tree, q, a, b, ls, fs, e, l, h1, h2, h3⟩, hl, hc⟩ := h
  exact one_len h1 rfl h2 h3 hc
theorem one_str {μ : Sto} {s c : Nat} {ps : List (List Nat)} {w : List Nat} (h : Pat μ s ps c w) : gOne 2 F_Pattern_str strP [.ref s] μ = some (.str w, μ) := by
  obtain ⟨⟨tree, q, a, b, ls, fs, e, l, h1, h2, h3⟩, hl, hc⟩ := h
  have hs : wF F_Pattern_str [.ref s] μ fun d ν => d = .str w ∧ ν = μ := by
    unfold F_Pattern_str
    rw [f_body]
    refine ⟨rfl, ?_⟩
    show wS _ [some (.ref s)] μ _
    unfold m_Pattern_str
    have g5 : getF [(2, 5)] (.ref s) μ = some (.str w) := o_getF h1 rfl
    simp only [w_bnd, w_ret, w_eC, w_var, w_opS, w_op, w_N, w_CB, w_CS, w_nil, w_cons, w_call, w_if, w_B, w_and, w_or, w_not, w_vAnd, w_vOr, w_vNot, w_neg, w_tup, w_lstF, w_lstC, w_chain, w_fld, w_sl, w_oN, w_oS, w_isLs, w_isSt, w_me, w_meth, w_methS, w_make, w_fmt, w_frz, w_isi, s_seq, s_next, s_set, s_asg, s_expr, s_ret, s_retN, s_if, s_cnt, s_brk, s_no, s_par, s_par3, s_tp, s_gsNil, s_gsCons, s_fld, s_fldT, s_sub, s_aug, s_fldA, s_augS, s_for, w_lc, w_src, w_srcL, w_srcT, w_srcS, w_srcR, w_rng1, wO_some, wO_none, List.getElem?_cons_zero, List.getElem?_cons_succ, List.set_cons_zero, List.set_cons_succ, fin_v, fin_lF, fin_lT, g5]
    refine ⟨w, rfl, ?_⟩
    rw [leave_same rfl]
    exact ⟨rfl, rfl⟩
  have := wF_eq hs
  simp only [gOne, insP_ok' h1, if_true, this, gRet, strP]
theorem eq_pat {μ : Sto} {s s' c c' : Nat} {ps ps' : List (List Nat)} {w w' : List Nat} {neg : Bool} (h : Pat μ s ps c w) (h' : Pat μ s' ps' c' w') : fCmpO clsIds 2 F_Pattern_eq neg (.ref s) (.ref s') μ = some (.bl (if neg then !decide (ps = ps') else decide (ps = ps')), μ) := by
  obtain ⟨⟨tree, q, a, b, ls, fs, e, l, h1, h2, h3⟩, hl, hc⟩ := h
  obtain ⟨⟨tree', q', a', b', ls', fs', e', l', h1', h2', h3'⟩, hl', hc'⟩ := h'
  have hs : wF F_Pattern_eq [.ref s, .ref s'] μ fun d ν => d = .bl (decide (ps = ps')) ∧ ν = μ := by
    unfold F_Pattern_eq
    rw [f_body]
    refine ⟨rfl, ?_⟩
    show wS _ [some (.ref s), some (.ref s')] μ _
    unfold m_Pattern_eq
    have g0 : getF [(2, 0)] (.ref s) μ = some (.lst (psS ps)) := o_getF h1 rfl
    have g0' : getF [(2, 0)] (.ref s') μ = some (.lst (psS ps')) := o_getF h1' rfl
    have e1 : tyD μ (.ref s') = some (.own 2) := by simp [tyD, h1']
    have e2 : lkT isi_Pattern (.own 2) = some true := by simp [lkT, isi_Pattern]
    simp only [w_bnd, w_ret, w_eC, w_var, w_opS, w_op, w_N, w_CB, w_CS, w_nil, w_cons, w_call, w_if, w_B, w_and, w_or, w_not, w_vAnd, w_vOr, w_vNot, w_neg, w_tup, w_lstF, w_lstC, w_chain, w_fld, w_sl, w_oN, w_oS, w_isLs, w_isSt, w_me, w_meth, w_methS, w_make, w_fmt, w_frz, w_isi, s_seq, s_next, s_set, s_asg, s_expr, s_ret, s_retN, s_if, s_cnt, s_brk, s_no, s_par, s_par3, s_tp, s_gsNil, s_gsCons, s_fld, s_fldT, s_sub, s_aug, s_fldA, s_augS, s_for, w_lc, w_src, w_srcL, w_srcT, w_srcS, w_srcR, w_rng1, wO_some, wO_none, List.getElem?_cons_zero, List.getElem?_cons_succ, List.set_cons_zero, List.set_cons_succ, fin_v, fin_lF, fin_lT, e1, e2]
    refine ⟨by decide, _, rfl, ?_⟩
    simp only [if_true, g0, g0', wO_some, eq_strs (n := false) toP_psS toP_psS hl hl', fin_v]
    rw [leave_same rfl]
    exact ⟨by simp, rfl⟩
  have hx := wF_eq hs
  have e1 : tyD μ (.ref s') = some (.own 2) := by simp [tyD, h1']
  have e3 : tyOk clsIds (.own 2) = true := by decide
  simp only [fCmpO, insP_ok' h1, if_true, e1, e3, hx, gRet, blP, Option.map_some]
theorem eq_not {μ : Sto} {s c : Nat} {ps : List (List Nat)} {w : List Nat} {neg : Bool} {y : D} {t : String} (h : Pat μ s ps c w) (hy : tyD μ y = some (.bt t)) (ht : lkT isi_Pattern (.bt t) = some false) : fCmpO clsIds 2 F_Pattern_eq neg (.ref s) y μ = some (.bl neg, μ) := by
  obtain ⟨⟨tree, q, a, b, ls, fs, e, l, h1, h2, h3⟩, hl, hc⟩ := h
  have hs : wF F_Pattern_eq [.ref s, y] μ fun d ν => d = .bl false ∧ ν = μ := by
    unfold F_Pattern_eq
    rw [f_body]
    refine ⟨rfl, ?_⟩
    show wS _ [some (.ref s), some y] μ _
    unfold m_Pattern_eq
    simp only [w_bnd, w_ret, w_eC, w_var, w_opS, w_op, w_N, w_CB, w_CS, w_nil, w_cons, w_call, w_if, w_B, w_and, w_or, w_not, w_vAnd, w_vOr, w_vNot, w_neg, w_tup, w_lstF, w_lstC, w_chain, w_fld, w_sl, w_oN, w_oS, w_isLs, w_isSt, w_me, w_meth, w_methS, w_make, w_fmt, w_frz, w_isi, s_seq, s_next, s_set, s_asg, s_expr, s_ret, s_retN, s_if, s_cnt, s_brk, s_no, s_par, s_par3, s_tp, s_gsNil, s_gsCons, s_fld, s_fldT, s_sub, s_aug, s_fldA, s_augS, s_for, w_lc, w_src, w_srcL, w_srcT, w_srcS, w_srcR, w_rng1, wO_some, wO_none, List.getElem?_cons_zero, List.getElem?_cons_succ, List.set_cons_zero, List.set_cons_succ, fin_v, fin_lF, fin_lT, hy, ht]
    refine ⟨rfl, _, rfl, ?_⟩
    simp only [Bool.false_eq_true, if_false]
    rw [leave_same rfl]
    exact ⟨rfl, rfl⟩
  have hx := wF_eq hs
  have e3 : tyOk clsIds (.bt t) = true := rfl
  simp only [fCmpO, insP_ok' h1, if_true, hy, e3, hx, gRet, blP, Option.map_some]
  cases neg <;> rfl
end K01

set_option maxRecDepth 100000
set_option maxHeartbeats 1000000
namespace K01
open PySem L2 PyProof.Rows PySem.Spec Ab
/-! ### other patterns, made of one -/
theorem join_app {s : List Nat} : ∀ {xs ys : List (List Nat)}, xs ≠ [] → ys ≠ [] → TL.joinL s (xs ++ ys) = TL.joinL s xs ++ s ++ TL.joinL s ys
  | [], _, h, _ => absurd rfl h
  | [x], [], _, h => absurd rfl h
  | [x], y :: ys, _, _ => by simp [TL.joinL]
  | x :: x' :: xs, ys, _, h => by
    have ih := join_app (s := s) (xs := x' :: xs) (ys := ys) (by simp) h
    simp only [List.cons_append] at ih ⊢
    simp only [TL.joinL]
    rw [ih]
    simp
theorem joinL_one {s x : List Nat} : TL.joinL s [x] = x := rfl
structure Gd (as : List At) : Prop where
  ex : ∃ n, n ≤ 4 ∧ BrQ (ItA n) as
  c10 : cB as ≤ 10
theorem Gd.sp {as : List At} (h : Gd as) : Sp (psB as) (wB as) := by obtain ⟨⟨n, hn, hB⟩, hc⟩ := h; exact sp_pat hB
theorem Gd.ps {as : List At} (h : Gd as) : (psB as).length ≤ 190 := by obtain ⟨⟨n, hn, hB⟩, hc⟩ := h; exact pat_ps hB hn hc
theorem Gd.w {as : List At} (h : Gd as) : (wB as).length ≤ 3000 := by obtain ⟨⟨n, hn, hB⟩, hc⟩ := h; exact pat_w hB hn hc
theorem Gd.pcs {as : List At} (h : Gd as) : ∀ p ∈ psB as, Pc p := by obtain ⟨⟨n, hn, hB⟩, hc⟩ := h; exact pc_pat hB
theorem Gd.ne {as : List At} (h : Gd as) : as ≠ [] := by obtain ⟨⟨n, hn, hB⟩, hc⟩ := h; exact hB.1
theorem make_ok {as : List At} {t : List Nat} {μ : Sto} {Q : Sto → Prop} (h : Gd as) (hS : Sp (psB as) t) (hl : t.length ≤ 100000) (hQ : ∀ l, Pat (μ ++ l) μ.length (psB as) (cB as) (wB as) → Q (μ ++ l)) :
    wF F_Pattern_init [.ref μ.length, .str t] (μ ++ [.ins 2 []]) fun d μ2 => d = .non ∧ Q μ2 := by
  have hw := h.w
  obtain ⟨⟨n, hn, hB⟩, hc⟩ := h
  exact init_ok hB hn hc hS hl (by omega) hQ
/-- in parentheses -/
def grp (as : List At) : At := ⟨[40] :: (psB as ++ [41] :: sgP []), (40 :: wB as ++ [41]) ++ [], cB as, sgT [] (tOr (as.map (·.t)))⟩
theorem isg0 : IsSg [] := by simp [IsSg]
theorem par_ok {n : Nat} {as : List At} (hB : BrQ (ItA n) as) (hn : n ≤ 3) (hc : cB as ≤ 10) : Gd [bAt [grp as]] ∧ wB [bAt [grp as]] = 40 :: wB as ++ [41] ∧ psB [bAt [grp as]] ≠ psB as := by
  refine ⟨⟨⟨n + 1, by omega, by simp, fun a ha => ?_⟩, ?_⟩, ?_, ?_⟩
  · simp at ha; subst ha
    refine ⟨[grp as], by simp, fun i hi => ?_, rfl⟩
    simp at hi; subst hi
    exact ⟨[], isg0, .inr (.inr ⟨as, hB, rfl⟩)⟩
  · have : cB [bAt [grp as]] = cB as := by simp [cB, bAt, grp]
    omega
  · simp [wB, bAt, TL.joinL, grp]
  · intro e
    have := congrArg List.length e
    rw [psB_cons] at this
    simp [bAt, grp, sgP] at this
    omega
/-- twice, as branches -/
theorem twice_ok {n : Nat} {as : List At} (hB : BrQ (ItA n) as) (hn : n ≤ 3) (hc : cB as ≤ 5) : Gd (as ++ as) ∧ wB (as ++ as) = wB as ++ [32, 124, 32] ++ wB as ∧ psB (as ++ as) ≠ psB as := by
  have hne := hB.1
  refine ⟨⟨⟨n, by omega, by simp [hne], fun a ha => ?_⟩, ?_⟩, ?_, ?_⟩
  · rcases List.mem_append.mp ha with ha | ha <;> exact hB.2 a ha
  · have : cB (as ++ as) = cB as + cB as := by simp [cB]
    omega
  · unfold wB
    rw [List.map_append, join_app (by simp [hne]) (by simp [hne])]
  · intro e
    obtain ⟨a, as', rfl⟩ : ∃ a as', as = a :: as' := by
      cases as with
      | nil => exact absurd rfl hne
      | cons a as' => exact ⟨a, as', rfl⟩
    have := congrArg List.length e
    rw [List.cons_append, psB_cons, psB_cons] at this
    simp at this
/-- with one item more -/
def eIt : At := ⟨(34 :: [101] ++ [34]) :: sgP [], (34 :: [101] ++ [34]) ++ [], 1, sgT [] (tAll ([101].map fun c => tOne [c]))⟩
theorem eIt_ok (n : Nat) : ItA n eIt := by
  have h : ∀ B, ItQ B eIt := fun B => ⟨[], isg0, .inl ⟨[101], by simp, by simp, by intro c hc; simp at hc; subst hc; decide, rfl⟩⟩
  cases n <;> exact h _
theorem more_ok {n : Nat} {as : List At} (hB : BrQ (ItA n) as) (hn : n ≤ 3) (hc : cB as ≤ 5) : ∃ as', Gd as' ∧ wB as' = wB as ++ [32, 34, 101, 34] ∧ psB as' ≠ psB as := by
  have hne := hB.1
  obtain ⟨bs, b, rfl⟩ : ∃ bs b, as = bs ++ [b] := ⟨as.dropLast, as.getLast hne, (List.dropLast_concat_getLast hne).symm⟩
  obtain ⟨is, h1, h2, rfl⟩ := hB.2 b (by simp)
  have hw : (bAt (is ++ [eIt])).w = (bAt is).w ++ [32, 34, 101, 34] := by
    show TL.joinL [32] ((is ++ [eIt]).map (·.w)) = TL.joinL [32] (is.map (·.w)) ++ _
    rw [List.map_append, join_app (by simp [h1]) (by simp)]
    simp [eIt, TL.joinL]
  have hps : (bAt (is ++ [eIt])).ps = (bAt is).ps ++ [[34, 101, 34]] := by simp [bAt, eIt, sgP]
  refine ⟨bs ++ [bAt (is ++ [eIt])], ⟨⟨n, by omega, by simp, fun a ha => ?_⟩, ?_⟩, ?_, ?_⟩
  · rcases List.mem_append.mp ha with ha | ha
    · exact hB.2 a (by simp [ha])
    · simp at ha; subst ha
      refine ⟨is ++ [eIt], by simp, fun i hi => ?_, rfl⟩
      rcases List.mem_append.mp hi with hi | hi
      · exact h2 i hi
      · simp at hi; subst hi; exact eIt_ok n
  · have : cB (bs ++ [bAt (is ++ [eIt])]) = cB (bs ++ [bAt is]) + 1 := by simp [cB, bAt, eIt]; omega
    omega
  · unfold wB
    rw [List.map_append, List.map_append]
    cases bs with
    | nil => simpa [TL.joinL] using hw
    | cons c cs =>
      rw [join_app (by simp) (by simp), join_app (by simp) (by simp)]
      simp only [List.map_cons, List.map_nil, joinL_one]
      rw [hw]
      simp
  · intro e
    have := congrArg List.length e
    cases bs with
    | nil =>
      rw [List.nil_append, List.nil_append, psB_cons, psB_cons, hps] at this
      simp at this
    | cons c cs =>
      rw [List.cons_append, List.cons_append, psB_cons, psB_cons] at this
      simp [hps] at this
end K01

set_option maxRecDepth 100000
set_option maxHeartbeats 2000000
namespace K01
open PySem L2 PyProof.Rows PySem.Spec Ab
/-- the loop over other patterns -/
noncomputable def othBody : SM := (sIf (bOr (mB (eOp (fCmpO clsIds 2 F_Pattern_eq false) (eMake 2 F_Pattern_init (aCons (eVar 7) aNil)) (eVar 4))) (bOr (bNot (mB (eOp (fCmpO clsIds 2 F_Pattern_eq true) (eMake 2 F_Pattern_init (aCons (eVar 7) aNil)) (eVar 4)))) (mB (eN false (gEq true) (eCS (gOne 2 F_Pattern_str strP) (aCons (eMake 2 F_Pattern_init (aCons (eVar 7) aNil)) aNil)) (eVar 7))))) (sRet (eC (.bl false))) sNext)
theorem oth_ok {μ : Sto} {as' : List At} {s c : Nat} {ps : List (List Nat)} {w : List Nat} {x0 x1 x2 x3 x5 x6 x8 : Option D} {K : KS} (h : Gd as') (hne : psB as' ≠ ps) (hP : Pat μ s ps c w)
    (hK : ∀ l, K.n [x0, x1, x2, x3, some (.ref s), x5, x6, some (.str (wB as')), x8] (μ ++ l)) : wS othBody [x0, x1, x2, x3, some (.ref s), x5, x6, some (.str (wB as')), x8] μ K := by
  have hw := h.w
  unfold othBody
  simp only [w_bnd, w_ret, w_eC, w_var, w_opS, w_op, w_N, w_CB, w_CS, w_nil, w_cons, w_call, w_if, w_B, w_and, w_or, w_not, w_vAnd, w_vOr, w_vNot, w_neg, w_tup, w_lstF, w_lstC, w_chain, w_fld, w_sl, w_oN, w_oS, w_isLs, w_isSt, w_me, w_meth, w_methS, w_make, w_fmt, w_frz, w_isi, s_seq, s_next, s_set, s_asg, s_expr, s_ret, s_retN, s_if, s_cnt, s_brk, s_no, s_par, s_par3, s_tp, s_gsNil, s_gsCons, s_fld, s_fldT, s_sub, s_aug, s_fldA, s_augS, s_for, w_lc, w_src, w_srcL, w_srcT, w_srcS, w_srcR, w_rng1, wO_some, wO_none, List.getElem?_cons_zero, List.getElem?_cons_succ, List.set_cons_zero, List.set_cons_succ, fin_v, fin_lF, fin_lT]
  refine make_ok h h.sp (by omega) fun l1 hP1 => ?_
  rw [eq_pat hP1 hP.app, wO_some]
  refine ⟨_, rfl, ?_⟩
  simp only [hne, decide_false, Bool.false_eq_true, if_false]
  refine make_ok h h.sp (by omega) fun l2 hP2 => ?_
  rw [eq_pat hP2 hP.app.app, wO_some]
  refine ⟨_, rfl, ?_⟩
  simp only [hne, decide_false, if_true, Bool.not_false, Bool.not_true, Bool.false_eq_true, if_false]
  refine make_ok h h.sp (by omega) fun l3 hP3 => ?_
  simp only [one_str hP3, wO_some, o_eqS, fin_v]
  refine ⟨_, rfl, ?_⟩
  simp only [decide_true, if_true, Bool.not_true, Bool.false_eq_true, if_false]
  rw [List.append_assoc, List.append_assoc]
  exact hK _
theorem none_eq {μ : Sto} {s c : Nat} {ps qs : List (List Nat)} {w u : List Nat} {x0 x1 x2 x3 x5 x6 x7 : Option D} {i : Int} {Q : List D × Sto → Prop} (hP : Pat μ s ps c w) (hQ : Q ([.bl false, .bl false, .bl false, .bl false, .bl false], μ)) :
    wO (lcLoop (.fix [.str u, .lst (psS qs), .non, .int 0, .int i]) (.nm 8) mYes (eOp (fCmpO clsIds 2 F_Pattern_eq false) (eVar 4) (eVar 8)) [x0, x1, x2, x3, some (.ref s), x5, x6, x7, none] (Src.fuel μ (.fix [.str u, .lst (psS qs), .non, .int 0, .int i])) 0 [] μ) Q := by
  refine lc_map (fun _ => .bl false) (fun d hd => ?_) (by simp [big]) hQ
  refine ⟨_, rfl, fun Q' hq => ?_⟩
  show wM _ [x0, x1, x2, x3, some (.ref s), x5, x6, x7, some d] μ Q'
  have e : fCmpO clsIds 2 F_Pattern_eq false (.ref s) d μ = some (.bl false, μ) := by
    simp at hd
    rcases hd with rfl | rfl | rfl | rfl | rfl
    · exact eq_not hP (t := "str") rfl (by simp [lkT, isi_Pattern])
    · exact eq_not hP (t := "list") rfl (by simp [lkT, isi_Pattern])
    · exact eq_not hP (t := "NoneType") rfl (by simp [lkT, isi_Pattern])
    · exact eq_not hP (t := "int") rfl (by simp [lkT, isi_Pattern])
    · exact eq_not hP (t := "int") rfl (by simp [lkT, isi_Pattern])
  simp only [w_bnd, w_ret, w_eC, w_var, w_opS, w_op, w_N, w_CB, w_CS, w_nil, w_cons, w_call, w_if, w_B, w_and, w_or, w_not, w_vAnd, w_vOr, w_vNot, w_neg, w_tup, w_lstF, w_lstC, w_chain, w_fld, w_sl, w_oN, w_oS, w_isLs, w_isSt, w_me, w_meth, w_methS, w_make, w_fmt, w_frz, w_isi, s_seq, s_next, s_set, s_asg, s_expr, s_ret, s_retN, s_if, s_cnt, s_brk, s_no, s_par, s_par3, s_tp, s_gsNil, s_gsCons, s_fld, s_fldT, s_sub, s_aug, s_fldA, s_augS, s_for, w_lc, w_src, w_srcL, w_srcT, w_srcS, w_srcR, w_rng1, wO_some, wO_none, List.getElem?_cons_zero, List.getElem?_cons_succ, List.set_cons_zero, List.set_cons_succ, fin_v, fin_lF, fin_lT, e]
  exact hq
theorem leave_bag {μ l : Sto} {k n : Nat} {o : O} {d : D} (hB : Bag (μ.set k o) k n) (hd : NoRef d) : leave μ d (μ.set k o ++ l) = (d, μ.set k o) := by
  refine leave_app (by simp) (fun j o' h => ?_) ?_ (hd _)
  · by_cases hj : j = k
    · subst hj
      obtain ⟨a, b, c, h1, _⟩ := hB
      rw [h1] at h
      cases h
      exact .inr rfl
    · rw [List.getElem?_set_ne (Ne.symm hj)] at h
      exact .inl h
  · cases d with
    | ref k =>
      have := hd 0
      simp [refsLt] at this
    | _ => rfl
theorem cut_oth (a b c : D) : cutL [a, b, c] none (some 1) = [a] ∧ cutL [a, b, c] (some 1) none = [b, c] := ⟨rfl, rfl⟩
theorem right_ok {μ : Sto} {k n : Nat} {Q : D → Sto → Prop} (hB : Bag μ k n) (hn : n ≤ 20000000000) (hQ : ∀ o, Bag (μ.set k o) k (n + 5000000000) → Q (.bl true) (μ.set k o)) : wF F_l_right [.ref k] μ Q := by
  have hbB := bB6
  unfold F_l_right
  rw [f_body]
  refine ⟨rfl, ?_⟩
  show wS _ [some (.ref k), none, none, none, none, none, none, none, none] μ _
  unfold m_l_right
  -- a pattern is drawn
  refine q_seq (fun Γ' μ' => ∃ bs as o l, Γ' = [some (.ref k), some (.lst bs), none, none, none, none, none, none, none] ∧ μ' = μ.set k o ++ l ∧ Bag (μ.set k o) k (n + 4100000000) ∧ BrsP (ItR 3) bs as ∧ cB as ≤ 9) ?_ ?_
  · simp only [w_bnd, w_ret, w_eC, w_var, w_opS, w_op, w_N, w_CB, w_CS, w_nil, w_cons, w_call, w_if, w_B, w_and, w_or, w_not, w_vAnd, w_vOr, w_vNot, w_neg, w_tup, w_lstF, w_lstC, w_chain, w_fld, w_sl, w_oN, w_oS, w_isLs, w_isSt, w_me, w_meth, w_methS, w_make, w_fmt, w_frz, w_isi, s_seq, s_next, s_set, s_asg, s_expr, s_ret, s_retN, s_if, s_cnt, s_brk, s_no, s_par, s_par3, s_tp, s_gsNil, s_gsCons, s_fld, s_fldT, s_sub, s_aug, s_fldA, s_augS, s_for, w_lc, w_src, w_srcL, w_srcT, w_srcS, w_srcR, w_rng1, wO_some, wO_none, List.getElem?_cons_zero, List.getElem?_cons_succ, List.set_cons_zero, List.set_cons_succ, fin_v, fin_lF, fin_lT]
    refine take_ok hB (by decide) (by omega) fun r o1 h0 h1 hB1 => ?_
    obtain ⟨i, rfl⟩ := nat_of h0 h1
    rw [o_add, wO_some, fin_v]
    have e1 : (1 : Int) + (i : Int) = ((1 + i : Nat) : Int) := by omega
    rw [e1]
    refine letters_ok hB1 (by omega) (by omega) fun lt o2 hlen hA hL hB2 => ?_
    rw [List.set_set] at hB2 ⊢
    refine take_ok hB2 (by decide) (by omega) fun r o3 h2 h3 hB3 => ?_
    obtain ⟨j, rfl⟩ := nat_of h2 h3
    rw [List.set_set] at hB3 ⊢
    rw [o_add, wO_some, fin_v]
    have e2 : (1 : Int) + (j : Int) = ((1 + j : Nat) : Int) := by omega
    rw [e2]
    refine ⟨by simp, ?_⟩
    have hk : k < μ.length := hB.lt
    have hT : Two (μ.set k o3 ++ [.lst [.int ((1 + j : Nat) : Int)]]) k (μ.set k o3).length (n + 1 + 8 + 1) (1 + j) := ⟨hB3.app, by rw [new_at0 rfl]; rfl, by simp; omega⟩
    refine gen6 _ _ _ _ _ lt 3 _ hT (by omega) (by omega) (by omega) (by omega) hA hL (by omega) (by omega) fun bs as μ' M hR hc hc1 hT' hU hnr => ?_
    obtain ⟨a, b, rfl⟩ := hU
    have e3 : ((μ.set k o3 ++ [O.lst [.int ((1 + j : Nat) : Int)]]).set k a).set (μ.set k o3).length b = μ.set k a ++ [b] := by
      rw [old_set (by simpa using hk), List.set_set, new_set0 (by simp)]
      rfl
    rw [e3] at hT' ⊢
    refine ⟨bs, as, a, [b], by first | trivial | rfl, by first | trivial | rfl, ?_, hR, by omega⟩
    exact (hT'.1.left (by simpa using hk)).mono (by omega)
  rintro Γ' μ' ⟨bs, as, o, l, rfl, rfl, hB1, hR, hc9⟩
  have hBr := brQ_of hR
  have hG : Gd as := ⟨⟨3, by omega, hBr⟩, by omega⟩
  have hw := hG.w
  have hps := hG.ps
  -- its pieces and its text
  refine q_seq (fun Γ' μ' => Γ' = [some (.ref k), some (.lst bs), some (.lst (psS (psB as))), some (.str (wB as)), none, none, none, none, none] ∧ μ' = μ.set k o ++ l) ?_ ?_
  · simp only [w_bnd, w_ret, w_eC, w_var, w_opS, w_op, w_N, w_CB, w_CS, w_nil, w_cons, w_call, w_if, w_B, w_and, w_or, w_not, w_vAnd, w_vOr, w_vNot, w_neg, w_tup, w_lstF, w_lstC, w_chain, w_fld, w_sl, w_oN, w_oS, w_isLs, w_isSt, w_me, w_meth, w_methS, w_make, w_fmt, w_frz, w_isi, s_seq, s_next, s_set, s_asg, s_expr, s_ret, s_retN, s_if, s_cnt, s_brk, s_no, s_par, s_par3, s_tp, s_gsNil, s_gsCons, s_fld, s_fldT, s_sub, s_aug, s_fldA, s_augS, s_for, w_lc, w_src, w_srcL, w_srcT, w_srcS, w_srcR, w_rng1, wO_some, wO_none, List.getElem?_cons_zero, List.getElem?_cons_succ, List.set_cons_zero, List.set_cons_succ, fin_v, fin_lF, fin_lT]
    refine pieces_all 6 3 bs as _ _ (by omega) (by omega) hR (written_all 6 3 bs as _ _ (by omega) (by omega) hR ?_)
    exact ⟨_, _, rfl, by first | trivial | rfl, by first | trivial | rfl⟩
  rintro Γ' μ' ⟨rfl, rfl⟩
  -- told, again
  refine q_seq (fun Γ' μ' => ∃ o l s1 s2, Γ' = [some (.ref k), some (.lst bs), some (.lst (psS (psB as))), some (.str (wB as)), some (.ref s1), some (.ref s2), none, none, none] ∧ μ' = μ.set k o ++ l ∧ Bag (μ.set k o) k (n + 4200000000) ∧ Pat μ' s1 (psB as) (cB as) (wB as) ∧ Pat μ' s2 (psB as) (cB as) (wB as)) ?_ ?_
  · simp only [w_bnd, w_ret, w_eC, w_var, w_opS, w_op, w_N, w_CB, w_CS, w_nil, w_cons, w_call, w_if, w_B, w_and, w_or, w_not, w_vAnd, w_vOr, w_vNot, w_neg, w_tup, w_lstF, w_lstC, w_chain, w_fld, w_sl, w_oN, w_oS, w_isLs, w_isSt, w_me, w_meth, w_methS, w_make, w_fmt, w_frz, w_isi, s_seq, s_next, s_set, s_asg, s_expr, s_ret, s_retN, s_if, s_cnt, s_brk, s_no, s_par, s_par3, s_tp, s_gsNil, s_gsCons, s_fld, s_fldT, s_sub, s_aug, s_fldA, s_augS, s_for, w_lc, w_src, w_srcL, w_srcT, w_srcS, w_srcR, w_rng1, wO_some, wO_none, List.getElem?_cons_zero, List.getElem?_cons_succ, List.set_cons_zero, List.set_cons_succ, fin_v, fin_lF, fin_lT]
    refine spaced_ok hB1 (by omega) hG.pcs (by omega) fun t o2 hS ht hB2 => ?_
    rw [List.set_set] at hB2 ⊢
    refine make_ok hG hS (by omega) fun l1 hP1 => ?_
    refine make_ok hG hG.sp (by omega) fun l2 hP2 => ?_
    refine ⟨by simp, _, rfl, rfl, ?_⟩
    simp only [w_bnd, w_ret, w_eC, w_var, w_opS, w_op, w_N, w_CB, w_CS, w_nil, w_cons, w_call, w_if, w_B, w_and, w_or, w_not, w_vAnd, w_vOr, w_vNot, w_neg, w_tup, w_lstF, w_lstC, w_chain, w_fld, w_sl, w_oN, w_oS, w_isLs, w_isSt, w_me, w_meth, w_methS, w_make, w_fmt, w_frz, w_isi, s_seq, s_next, s_set, s_asg, s_expr, s_ret, s_retN, s_if, s_cnt, s_brk, s_no, s_par, s_par3, s_tp, s_gsNil, s_gsCons, s_fld, s_fldT, s_sub, s_aug, s_fldA, s_augS, s_for, w_lc, w_src, w_srcL, w_srcT, w_srcS, w_srcR, w_rng1, wO_some, wO_none, List.getElem?_cons_zero, List.getElem?_cons_succ, List.set_cons_zero, List.set_cons_succ, fin_v, fin_lF, fin_lT]
    refine ⟨o2, l ++ l1 ++ l2, _, _, by first | trivial | rfl, by simp, hB2.mono (by omega), hP1.app, hP2⟩
  rintro Γ' μ' ⟨o, l, s1, s2, rfl, hμ, hB2, hP1, hP2⟩
  subst hμ
  -- first tests
  refine q_seq (fun Γ' μ' => Γ' = [some (.ref k), some (.lst bs), some (.lst (psS (psB as))), some (.str (wB as)), some (.ref s1), some (.ref s2), none, none, none] ∧ μ' = μ.set k o ++ l) ?_ ?_
  · simp only [w_bnd, w_ret, w_eC, w_var, w_opS, w_op, w_N, w_CB, w_CS, w_nil, w_cons, w_call, w_if, w_B, w_and, w_or, w_not, w_vAnd, w_vOr, w_vNot, w_neg, w_tup, w_lstF, w_lstC, w_chain, w_fld, w_sl, w_oN, w_oS, w_isLs, w_isSt, w_me, w_meth, w_methS, w_make, w_fmt, w_frz, w_isi, s_seq, s_next, s_set, s_asg, s_expr, s_ret, s_retN, s_if, s_cnt, s_brk, s_no, s_par, s_par3, s_tp, s_gsNil, s_gsCons, s_fld, s_fldT, s_sub, s_aug, s_fldA, s_augS, s_for, w_lc, w_src, w_srcL, w_srcT, w_srcS, w_srcR, w_rng1, wO_some, wO_none, List.getElem?_cons_zero, List.getElem?_cons_succ, List.set_cons_zero, List.set_cons_succ, fin_v, fin_lF, fin_lT, one_str hP1, one_str hP2, one_len' hP1, one_len' hP2, o_eqS]
    refine ⟨_, rfl, ?_⟩
    simp only [decide_true, if_true, Bool.not_true, Bool.false_eq_true, if_false]
    refine ⟨_, rfl, ?_⟩
    simp only [decide_true, if_true, Bool.not_true, Bool.false_eq_true, if_false]
    refine places_all 6 3 bs as _ _ (by omega) hR ?_
    simp only [o_eqI, wO_some, fin_v]
    refine ⟨_, rfl, ?_⟩
    simp only [decide_true, if_true, Bool.not_true, Bool.false_eq_true, if_false, one_len' hP1, one_len' hP2, wO_some, o_eqI, fin_v]
    refine ⟨_, rfl, ?_⟩
    simp only [decide_true, if_true, Bool.not_true, Bool.false_eq_true, if_false]
    exact ⟨by first | trivial | rfl, by first | trivial | rfl⟩
  rintro Γ' μ' ⟨rfl, rfl⟩
  -- equal ones
  refine q_seq (fun Γ' μ' => ∃ l, Γ' = [some (.ref k), some (.lst bs), some (.lst (psS (psB as))), some (.str (wB as)), some (.ref s1), some (.ref s2), none, none, none] ∧ μ' = μ.set k o ++ l ∧ Pat μ' s1 (psB as) (cB as) (wB as)) ?_ ?_
  · have hj : ∀ ν, gJoin (.str []) [.lst (psS (psB as))] ν = some (.str (TL.joinL [] (psB as)), ν) := fun ν => o_join rfl (by
      have : ((psB as).map (·.length)).sum ≤ (psB as).length * 10 := sum_le fun p hp => (hG.pcs p hp).len.2
      simp [big]; omega)
    have hspj : ∀ {ps : List (List Nat)}, (∀ p ∈ ps, Pc p) → Sp ps (TL.joinL [] ps) := by
      intro ps hp
      induction ps with
      | nil => exact .nil
      | cons p ps ih =>
        cases ps with
        | nil => exact Sp.one (hp p (by simp))
        | cons q qs =>
          have := ih fun x hx => hp x (by simp [hx])
          have e : TL.joinL [] (p :: q :: qs) = p ++ TL.joinL [] (q :: qs) := by simp [TL.joinL]
          rw [e]
          exact .pc (hp p (by simp)) this
    have hjl : (TL.joinL [] (psB as)).length ≤ (psB as).length * 10 := by
      have := join_le (a := []) (B := 10) (ls := psB as) fun p hp => (hG.pcs p hp).len.2
      simpa using this
    simp only [w_bnd, w_ret, w_eC, w_var, w_opS, w_op, w_N, w_CB, w_CS, w_nil, w_cons, w_call, w_if, w_B, w_and, w_or, w_not, w_vAnd, w_vOr, w_vNot, w_neg, w_tup, w_lstF, w_lstC, w_chain, w_fld, w_sl, w_oN, w_oS, w_isLs, w_isSt, w_me, w_meth, w_methS, w_make, w_fmt, w_frz, w_isi, s_seq, s_next, s_set, s_asg, s_expr, s_ret, s_retN, s_if, s_cnt, s_brk, s_no, s_par, s_par3, s_tp, s_gsNil, s_gsCons, s_fld, s_fldT, s_sub, s_aug, s_fldA, s_augS, s_for, w_lc, w_src, w_srcL, w_srcT, w_srcS, w_srcR, w_rng1, wO_some, wO_none, List.getElem?_cons_zero, List.getElem?_cons_succ, List.set_cons_zero, List.set_cons_succ, fin_v, fin_lF, fin_lT, eq_pat hP1 hP2, decide_true, Bool.false_eq_true, if_false, if_true]
    refine ⟨_, rfl, ?_⟩
    simp only [Bool.not_true, Bool.false_eq_true, if_false]
    refine ⟨_, rfl, ?_⟩
    simp only [Bool.not_true, Bool.false_eq_true, if_false]
    refine ⟨_, rfl, ?_⟩
    simp only [hj, wO_some]
    refine make_ok hG (hspj hG.pcs) (by omega) fun l1 hP3 => ?_
    rw [eq_pat hP3 hP1.app, wO_some]
    refine ⟨_, rfl, ?_⟩
    simp only [decide_true, if_true, Bool.not_true, Bool.false_eq_true, if_false, one_str hP1.app, wO_some]
    refine make_ok hG hG.sp (by omega) fun l2 hP4 => ?_
    simp only [one_str hP4, wO_some, o_eqS, fin_v]
    refine ⟨_, rfl, ?_⟩
    simp only [decide_true, if_true, Bool.not_true, Bool.false_eq_true, if_false]
    exact ⟨l ++ l1 ++ l2, by first | trivial | rfl, by simp, hP1.app.app⟩
  rintro Γ' μ' ⟨l, rfl, hμ, hP1⟩
  subst hμ
  -- others
  refine q_seq (fun Γ' μ' => Γ' = [some (.ref k), some (.lst bs), some (.lst (psS (psB as))), some (.str (wB as)), some (.ref s1), some (.ref s2), some (.lst [.str (40 :: wB as ++ [41]), .str (wB as ++ [32, 124, 32] ++ wB as), .str (wB as ++ [32, 34, 101, 34])]), none, none] ∧ μ' = μ.set k o ++ l) ?_ ?_
  · have a1 : ∀ ν, gAdd (.str [40]) (.str (wB as)) ν = some (.v (.str (40 :: wB as))) := fun ν => o_addS (by simp [big]; omega)
    have a2 : ∀ ν, gAdd (.str (40 :: wB as)) (.str [41]) ν = some (.v (.str (40 :: wB as ++ [41]))) := fun ν => o_addS (by simp [big]; omega)
    have a3 : ∀ ν, gAdd (.str (wB as)) (.str [32, 124, 32]) ν = some (.v (.str (wB as ++ [32, 124, 32]))) := fun ν => o_addS (by simp [big]; omega)
    have a4 : ∀ ν, gAdd (.str (wB as ++ [32, 124, 32])) (.str (wB as)) ν = some (.v (.str (wB as ++ [32, 124, 32] ++ wB as))) := fun ν => o_addS (by simp [big]; omega)
    have a5 : ∀ ν, gAdd (.str (wB as)) (.str [32, 34]) ν = some (.v (.str (wB as ++ [32, 34]))) := fun ν => o_addS (by simp [big]; omega)
    have a6 : ∀ ν, gAdd (.str (wB as ++ [32, 34])) (.str [101]) ν = some (.v (.str (wB as ++ [32, 34] ++ [101]))) := fun ν => o_addS (by simp [big]; omega)
    have a7 : ∀ ν, gAdd (.str (wB as ++ [32, 34] ++ [101])) (.str [34]) ν = some (.v (.str (wB as ++ [32, 34] ++ [101] ++ [34]))) := fun ν => o_addS (by simp [big]; omega)
    simp only [w_bnd, w_ret, w_eC, w_var, w_opS, w_op, w_N, w_CB, w_CS, w_nil, w_cons, w_call, w_if, w_B, w_and, w_or, w_not, w_vAnd, w_vOr, w_vNot, w_neg, w_tup, w_lstF, w_lstC, w_chain, w_fld, w_sl, w_oN, w_oS, w_isLs, w_isSt, w_me, w_meth, w_methS, w_make, w_fmt, w_frz, w_isi, s_seq, s_next, s_set, s_asg, s_expr, s_ret, s_retN, s_if, s_cnt, s_brk, s_no, s_par, s_par3, s_tp, s_gsNil, s_gsCons, s_fld, s_fldT, s_sub, s_aug, s_fldA, s_augS, s_for, w_lc, w_src, w_srcL, w_srcT, w_srcS, w_srcR, w_rng1, wO_some, wO_none, List.getElem?_cons_zero, List.getElem?_cons_succ, List.set_cons_zero, List.set_cons_succ, fin_v, fin_lF, fin_lT, a1, a2, a3, a4, a5, a6, a7]
    refine ⟨by simp, ?_, by first | trivial | rfl⟩
    simp
  rintro Γ' μ' ⟨rfl, rfl⟩
  refine q_seq (fun Γ' μ' => ∃ l x7, Γ' = [some (.ref k), some (.lst bs), some (.lst (psS (psB as))), some (.str (wB as)), some (.ref s1), some (.ref s2), some (.lst [.str (40 :: wB as ++ [41]), .str (wB as ++ [32, 124, 32] ++ wB as), .str (wB as ++ [32, 34, 101, 34])]), x7, none] ∧ μ' = μ.set k o ++ l ∧ Pat μ' s1 (psB as) (cB as) (wB as)) ?_ ?_
  · rw [s_for, w_src]
    have c1 := cut_oth (.str (40 :: wB as ++ [41])) (.str (wB as ++ [32, 124, 32] ++ wB as)) (.str (wB as ++ [32, 34, 101, 34]))
    have g1 : ∀ ν, gSl (.lst [.str (40 :: wB as ++ [41]), .str (wB as ++ [32, 124, 32] ++ wB as), .str (wB as ++ [32, 34, 101, 34])]) none (some 1) ν = some (.l [.str (40 :: wB as ++ [41])]) := fun ν => by
      simp only [gSl, l_lst, Option.map_some, c1.1]
    have g2 : ∀ ν, gSl (.lst [.str (40 :: wB as ++ [41]), .str (wB as ++ [32, 124, 32] ++ wB as), .str (wB as ++ [32, 34, 101, 34])]) (some 1) none ν = some (.l [.str (wB as ++ [32, 124, 32] ++ wB as), .str (wB as ++ [32, 34, 101, 34])]) := fun ν => by
      simp only [gSl, l_lst, Option.map_some, c1.2]
    simp only [w_bnd, w_ret, w_eC, w_var, w_opS, w_op, w_N, w_CB, w_CS, w_nil, w_cons, w_call, w_if, w_B, w_and, w_or, w_not, w_vAnd, w_vOr, w_vNot, w_neg, w_tup, w_lstF, w_lstC, w_chain, w_fld, w_sl, w_oN, w_oS, w_isLs, w_isSt, w_me, w_meth, w_methS, w_make, w_fmt, w_frz, w_isi, s_seq, s_next, s_set, s_asg, s_expr, s_ret, s_retN, s_if, s_cnt, s_brk, s_no, s_par, s_par3, s_tp, s_gsNil, s_gsCons, s_fld, s_fldT, s_sub, s_aug, s_fldA, s_augS, s_for, w_lc, w_src, w_srcL, w_srcT, w_srcS, w_srcR, w_rng1, wO_some, wO_none, List.getElem?_cons_zero, List.getElem?_cons_succ, List.set_cons_zero, List.set_cons_succ, fin_v, fin_lF, fin_lT]
    refine ⟨_, rfl, ?_⟩
    simp only [g1, wO_some, fin_lF]
    refine ⟨_, rfl, ?_⟩
    simp only [g2, wO_some, fin_lF, one_len' hP1, o_le, fin_v, o_intB]
    -- each of the others
    have key : ∀ ds : List D, (∀ d ∈ ds, ∃ as', d = .str (wB as') ∧ Gd as' ∧ psB as' ≠ psB as) → wS (forLoop (.fix ds) (sSet 7) othBody (Src.fuel (μ.set k o ++ l) (.fix ds)) 0) [some (.ref k), some (.lst bs), some (.lst (psS (psB as))), some (.str (wB as)), some (.ref s1), some (.ref s2), some (.lst [.str (40 :: wB as ++ [41]), .str (wB as ++ [32, 124, 32] ++ wB as), .str (wB as ++ [32, 34, 101, 34])]), none, none] (μ.set k o ++ l)
        { n := fun Γ' μ' => ∃ l x7, Γ' = [some (.ref k), some (.lst bs), some (.lst (psS (psB as))), some (.str (wB as)), some (.ref s1), some (.ref s2), some (.lst [.str (40 :: wB as ++ [41]), .str (wB as ++ [32, 124, 32] ++ wB as), .str (wB as ++ [32, 34, 101, 34])]), x7, none] ∧ μ' = μ.set k o ++ l ∧ Pat μ' s1 (psB as) (cB as) (wB as), r := fun d μ1 => Q (leave μ d μ1).1 (leave μ d μ1).2, b := fun _ _ => False, c := fun _ _ => False } := by
      intro ds hds
      refine s_fix (fun i Γ' μ' => ∃ l x7, Γ' = [some (.ref k), some (.lst bs), some (.lst (psS (psB as))), some (.str (wB as)), some (.ref s1), some (.ref s2), some (.lst [.str (40 :: wB as ++ [41]), .str (wB as ++ [32, 124, 32] ++ wB as), .str (wB as ++ [32, 34, 101, 34])]), x7, none] ∧ μ' = μ.set k o ++ l ∧ Pat μ' s1 (psB as) (cB as) (wB as)) ⟨l, none, rfl, rfl, hP1⟩ ?_ (fun _ _ h => h)
      rintro i d Γ1 μ1 hd ⟨l1, x7, rfl, hμ1, hP⟩
      obtain ⟨as', rfl, hG', hne⟩ := hds d (List.mem_of_getElem? hd)
      rw [s_set]
      refine oth_ok hG' hne hP fun l2 => ⟨l1 ++ l2, _, rfl, by rw [hμ1, List.append_assoc], hP.app⟩
    obtain ⟨p1, p2, p3⟩ := par_ok hBr (by omega) (by omega)
    have hd1 : ∃ as', D.str (40 :: wB as ++ [41]) = .str (wB as') ∧ Gd as' ∧ psB as' ≠ psB as := ⟨_, by rw [p2], p1, p3⟩
    by_cases h5 : cB as ≤ 5
    · obtain ⟨q1, q2, q3⟩ := twice_ok hBr (by omega) h5
      obtain ⟨as3, r1, r2, r3⟩ := more_ok hBr (by omega) h5
      rw [decide_eq_true (show (cB as : Int) ≤ 5 by omega)]
      have m1 : ∀ ν, gMul (.lst [.str (wB as ++ [32, 124, 32] ++ wB as), .str (wB as ++ [32, 34, 101, 34])]) (.int (if true = true then 1 else 0)) ν = some (.l [.str (wB as ++ [32, 124, 32] ++ wB as), .str (wB as ++ [32, 34, 101, 34])]) := fun ν => by
        rw [o_mulL l_lst (by simp [big])]
        rfl
      have m2 : ∀ ν, gAdd (.lst [.str (40 :: wB as ++ [41])]) (.lst [.str (wB as ++ [32, 124, 32] ++ wB as), .str (wB as ++ [32, 34, 101, 34])]) ν = some (.l [.str (40 :: wB as ++ [41]), .str (wB as ++ [32, 124, 32] ++ wB as), .str (wB as ++ [32, 34, 101, 34])]) := fun ν => by
        rw [o_addL l_lst l_lst (by simp [big])]
        rfl
      rw [m1, wO_some, fin_lF]
      dsimp only
      rw [m2, wO_some, fin_lF]
      refine key _ fun d hd => ?_
      simp only [List.mem_cons, List.not_mem_nil, or_false] at hd
      rcases hd with rfl | rfl | rfl
      · exact hd1
      · exact ⟨_, by rw [q2], q1, q3⟩
      · exact ⟨_, by rw [r2], r1, r3⟩
    · rw [decide_eq_false (show ¬ (cB as : Int) ≤ 5 by omega)]
      have m1 : ∀ ν, gMul (.lst [.str (wB as ++ [32, 124, 32] ++ wB as), .str (wB as ++ [32, 34, 101, 34])]) (.int (if false = true then 1 else 0)) ν = some (.l []) := fun ν => by
        rw [o_mulL l_lst (by simp [big])]
        rfl
      have m2 : ∀ ν, gAdd (.lst [.str (40 :: wB as ++ [41])]) (.lst []) ν = some (.l [.str (40 :: wB as ++ [41])]) := fun ν => by
        rw [o_addL l_lst l_lst (by simp [big])]
        rfl
      rw [m1, wO_some, fin_lF]
      dsimp only
      rw [m2, wO_some, fin_lF]
      refine key _ fun d hd => ?_
      simp only [List.mem_cons, List.not_mem_nil, or_false] at hd
      subst hd
      exact hd1
  rintro Γ' μ' ⟨l, x7, rfl, hμ, hP1⟩
  subst hμ
  -- nothing else
  simp only [w_bnd, w_ret, w_eC, w_var, w_opS, w_op, w_N, w_CB, w_CS, w_nil, w_cons, w_call, w_if, w_B, w_and, w_or, w_not, w_vAnd, w_vOr, w_vNot, w_neg, w_tup, w_lstF, w_lstC, w_chain, w_fld, w_sl, w_oN, w_oS, w_isLs, w_isSt, w_me, w_meth, w_methS, w_make, w_fmt, w_frz, w_isi, s_seq, s_next, s_set, s_asg, s_expr, s_ret, s_retN, s_if, s_cnt, s_brk, s_no, s_par, s_par3, s_tp, s_gsNil, s_gsCons, s_fld, s_fldT, s_sub, s_aug, s_fldA, s_augS, s_for, w_lc, w_src, w_srcL, w_srcT, w_srcS, w_srcR, w_rng1, wO_some, wO_none, List.getElem?_cons_zero, List.getElem?_cons_succ, List.set_cons_zero, List.set_cons_succ, fin_v, fin_lF, fin_lT, one_len' hP1]
  refine ⟨by simp, ?_⟩
  refine none_eq hP1 ?_
  have an : ∀ ν, gAny [.lst [.bl false, .bl false, .bl false, .bl false, .bl false]] ν = some (.v (.bl false)) := fun ν => rfl
  simp only [fin_lF, an, wO_some, fin_v]
  refine ⟨false, rfl, ?_⟩
  rw [leave_bag hB2 (fun n => rfl)]
  exact hQ o (hB2.mono (by omega))
end K01

set_option maxRecDepth 100000
set_option maxHeartbeats 2000000
namespace K01
open PySem L2 PyProof.Rows PySem.Spec Ab
/-- a comprehension over a cell that stays -/
theorem lc_cel {k : Nat} {ds : List D} {c : CT} {tt : M Bool} {te : M D} {Γ0 : Env'} {Q : List D × Sto → Prop} (I : Nat → List D → Sto → Prop) (hc : ∀ i acc μ1, I i acc μ1 → μ1[k]? = some (.lst ds))
    (hs : ∀ i d acc μ1, ds[i]? = some d → I i acc μ1 → ∃ Γ1, c.set d Γ0 = some Γ1 ∧ wM tt Γ1 μ1 fun k μ2 => if k = true then wM te Γ1 μ2 fun y μ3 => acc.length < big ∧ I (i + 1) (acc ++ [y]) μ3 else I (i + 1) acc μ2)
    (hd : ∀ acc μ1, I ds.length acc μ1 → Q (acc, μ1)) : ∀ (n i : Nat) (acc : List D) (μ : Sto), ds.length < n + i → i ≤ ds.length → I i acc μ → wO (lcLoop (.cel k) c tt te Γ0 n i acc μ) Q
  | 0, i, acc, μ, h, h2, hI => by omega
  | n + 1, i, acc, μ, h, h2, hI => by
    unfold lcLoop
    simp only [Src.item, hc i acc μ hI]
    cases hd2 : ds[i]? with
    | none =>
      have e : i = ds.length := by
        have := List.getElem?_eq_none_iff.mp hd2
        omega
      subst e
      exact hd acc μ hI
    | some d =>
      have hi := (List.getElem?_eq_some_iff.mp hd2).1
      obtain ⟨Γ1, hc1, q⟩ := hs i d acc μ hd2 hI
      simp only [hc1]
      unfold wM at q
      cases ht : tt Γ1 μ with
      | none => rw [ht] at q; exact q.elim
      | some r =>
        rw [ht] at q
        cases r with
        | exc _ _ _ => exact q.elim
        | ok kk μ2 =>
          cases kk with
          | false => exact lc_cel I hc hs hd n (i + 1) acc μ2 (by omega) (by omega) q
          | true =>
            dsimp only at q ⊢
            rw [if_pos rfl] at q
            cases he : te Γ1 μ2 with
            | none => rw [he] at q; exact q.elim
            | some r2 =>
              rw [he] at q
              cases r2 with
              | exc _ _ _ => exact q.elim
              | ok y μ3 =>
                dsimp only at q ⊢
                rw [if_pos q.1]
                exact lc_cel I hc hs hd n (i + 1) _ μ3 (by omega) (by omega) q.2
/-! ### patterns by hand -/
def tx (l s : List Nat) : At := ⟨(34 :: l ++ [34]) :: sgP s, (34 :: l ++ [34]) ++ s, l.length, sgT s (tAll (l.map fun c => tOne [c]))⟩
def sx (l s : List Nat) : At := ⟨(91 :: l ++ [93]) :: sgP s, (91 :: l ++ [93]) ++ s, 1, sgT s (tOne l)⟩
def gx (as : List At) (s : List Nat) : At := ⟨[40] :: (psB as ++ [41] :: sgP s), (40 :: wB as ++ [41]) ++ s, cB as, sgT s (tOr (as.map (·.t)))⟩
instance (s : List Nat) : Decidable (IsSg s) := inferInstanceAs (Decidable (s ∈ _))
instance (l : List Nat) : Decidable (Ltr l) := inferInstanceAs (Decidable (∀ c ∈ l, c ∈ allL))
theorem it_tx (n : Nat) {l s : List Nat} (h : IsSg s ∧ 1 ≤ l.length ∧ l.length ≤ 6 ∧ Ltr l) : ItA n (tx l s) := by
  have h' : ∀ B, ItQ B (tx l s) := fun B => ⟨s, h.1, .inl ⟨l, h.2.1, h.2.2.1, h.2.2.2, rfl⟩⟩
  cases n <;> exact h' _
theorem it_sx (n : Nat) {l s : List Nat} (h : IsSg s ∧ 1 ≤ l.length ∧ l.length ≤ 8 ∧ Asc l ∧ Ltr l) : ItA n (sx l s) := by
  have h' : ∀ B, ItQ B (sx l s) := fun B => ⟨s, h.1, .inr (.inl ⟨l, h.2.1, h.2.2.1, h.2.2.2.1, h.2.2.2.2, rfl⟩)⟩
  cases n <;> exact h' _
theorem it_gx {n : Nat} {as : List At} {s : List Nat} (hs : IsSg s) (h : BrQ (ItA n) as) : ItA (n + 1) (gx as s) := ⟨s, hs, .inr (.inr ⟨as, h, rfl⟩)⟩
theorem br_one {n : Nat} {is : List At} (h : is ≠ []) (g : ∀ i ∈ is, ItA n i) : BrQ (ItA n) [bAt is] := ⟨by simp, fun a ha => by simp at ha; subst ha; exact ⟨is, h, g, rfl⟩⟩
theorem br_more {n : Nat} {is : List At} {as : List At} (h : is ≠ []) (g : ∀ i ∈ is, ItA n i) (hB : BrQ (ItA n) as) : BrQ (ItA n) (bAt is :: as) := ⟨by simp, fun a ha => by
  rcases List.mem_cons.mp ha with rfl | ha
  · exact ⟨is, h, g, rfl⟩
  · exact hB.2 a ha⟩
theorem sp_list : ∀ (xs : List (Nat × List Nat)) (m : Nat), (∀ x ∈ xs, Pc x.2) → Sp (xs.map (·.2)) ((xs.map fun x => List.replicate x.1 32 ++ x.2).flatten ++ List.replicate m 32)
  | [], m, _ => by simpa using Sp.nil.spaces m
  | x :: xs, m, h => by
    have ih := sp_list xs m fun y hy => h y (by simp [hy])
    simp only [List.map_cons, List.flatten_cons, List.append_assoc]
    exact (Sp.pc (h x (by simp)) ih).spaces x.1
/-- a text, what is told of it, its places -/
def Hand (d : D) : Prop := ∃ t as, d = .tup [.str t, .str (wB as), .int (cB as : Int)] ∧ Gd as ∧ Sp (psB as) t ∧ t.length ≤ 1000
theorem hand_of {n : Nat} {as : List At} {t w : List Nat} {c : Int} (hn : n ≤ 4) (hB : BrQ (ItA n) as) (xs : List (Nat × List Nat)) (m : Nat) (h1 : psB as = xs.map (·.2)) (h2 : t = (xs.map fun x => List.replicate x.1 32 ++ x.2).flatten ++ List.replicate m 32) (hw : w = wB as) (hc : c = (cB as : Int)) (hc10 : cB as ≤ 10) (ht : t.length ≤ 1000) : Hand (.tup [.str t, .str w, .int c]) := by
  refine ⟨t, as, by rw [hw, hc], ⟨⟨n, hn, hB⟩, hc10⟩, ?_, ht⟩
  rw [h1, h2]
  exact sp_list xs m fun x hx => pc_pat hB x.2 (by rw [h1]; exact List.mem_map_of_mem hx)
theorem hand1 : Hand (.tup [.str [40, 34, 97, 34, 124, 91, 98, 99, 93, 43, 41, 34, 100, 34, 63], .str [40, 34, 97, 34, 32, 124, 32, 91, 98, 99, 93, 43, 41, 32, 34, 100, 34, 63], .int 3]) := by
  refine hand_of (n := 1) (as := [bAt [gx [bAt [tx [97] []], bAt [sx [98, 99] [43]]] [], tx [100] [63]]]) (by omega) (br_one (by simp) fun i hi => ?_) [(0, [40]), (0, [34, 97, 34]), (0, [124]), (0, [91, 98, 99, 93]), (0, [43]), (0, [41]), (0, [34, 100, 34]), (0, [63])] 0 (by decide) (by decide) (by decide) (by decide) (by decide) (by decide)
  simp at hi
  rcases hi with rfl | rfl
  · refine it_gx (by decide) (br_more (by simp) (fun i hi => ?_) (br_one (by simp) fun i hi => ?_))
    · simp at hi; subst hi; exact it_tx 0 (by decide)
    · simp at hi; subst hi; exact it_sx 0 (by decide)
  · exact it_tx 1 (by decide)
theorem one_item {n : Nat} {a : At} (h : ItA n a) : BrQ (ItA n) [bAt [a]] := br_one (by simp) fun i hi => by simp at hi; subst hi; exact h
theorem hand2 : Hand (.tup [.str [40, 32, 40, 32, 40, 32, 40, 32, 34, 97, 34, 32, 41, 32, 41, 32, 41, 32, 41], .str [40, 40, 40, 40, 34, 97, 34, 41, 41, 41, 41], .int 1]) :=
  hand_of (n := 4) (as := [bAt [gx [bAt [gx [bAt [gx [bAt [gx [bAt [tx [97] []]] []]] []]] []]] []]]) (by omega) (one_item (it_gx (by decide) (one_item (it_gx (by decide) (one_item (it_gx (by decide) (one_item (it_gx (by decide) (one_item (it_tx 0 (by decide)))))))))))
    [(0, [40]), (1, [40]), (1, [40]), (1, [40]), (1, [34, 97, 34]), (1, [41]), (1, [41]), (1, [41]), (1, [41])] 0 (by decide) (by decide) (by decide) (by decide) (by decide) (by decide)
theorem hand3 : Hand (.tup [.str [32, 34, 40, 41, 42, 43, 63, 124, 34, 32], .str [34, 40, 41, 42, 43, 63, 124, 34], .int 6]) :=
  hand_of (n := 0) (as := [bAt [tx [40, 41, 42, 43, 63, 124] []]]) (by omega) (one_item (it_tx 0 (by decide))) [(1, [34, 40, 41, 42, 43, 63, 124, 34])] 1 (by decide) (by decide) (by decide) (by decide) (by decide) (by decide)
theorem hand4 : Hand (.tup [.str [91, 33, 38, 124, 93, 42, 34, 97, 98, 99, 100, 101, 102, 34], .str [91, 33, 38, 124, 93, 42, 32, 34, 97, 98, 99, 100, 101, 102, 34], .int 7]) :=
  hand_of (n := 0) (as := [bAt [sx [33, 38, 124] [42], tx [97, 98, 99, 100, 101, 102] []]]) (by omega) (br_one (by simp) fun i hi => by
    simp at hi
    rcases hi with rfl | rfl
    · exact it_sx 0 (by decide)
    · exact it_tx 0 (by decide)) [(0, [91, 33, 38, 124, 93]), (0, [42]), (0, [34, 97, 98, 99, 100, 101, 102, 34])] 0 (by decide) (by decide) (by decide) (by decide) (by decide) (by decide)
theorem hand5 : Hand (.tup [.str [34, 97, 34, 34, 98, 34, 32, 124, 32, 91, 120, 93, 32, 91, 121, 122, 93], .str [34, 97, 34, 32, 34, 98, 34, 32, 124, 32, 91, 120, 93, 32, 91, 121, 122, 93], .int 4]) :=
  hand_of (n := 0) (as := [bAt [tx [97] [], tx [98] []], bAt [sx [120] [], sx [121, 122] []]]) (by omega) (br_more (by simp) (fun i hi => by
    simp at hi
    rcases hi with rfl | rfl
    · exact it_tx 0 (by decide)
    · exact it_tx 0 (by decide)) (br_one (by simp) fun i hi => by
    simp at hi
    rcases hi with rfl | rfl
    · exact it_sx 0 (by decide)
    · exact it_sx 0 (by decide))) [(0, [34, 97, 34]), (0, [34, 98, 34]), (1, [124]), (1, [91, 120, 93]), (1, [91, 121, 122, 93])] 0 (by decide) (by decide) (by decide) (by decide) (by decide) (by decide)
theorem by_hand_ok {μ : Sto} {Q : D → Sto → Prop} (hQ : Q (.bl true) μ) : wF F_l_by_hand [] μ Q := by
  unfold F_l_by_hand
  rw [f_body]
  refine ⟨rfl, ?_⟩
  show wS _ [none, none, none, none] μ _
  unfold m_l_by_hand
  have hN : μ.length = μ.length := rfl
  refine q_seq (fun Γ' μ' => ∃ d1 d2, Γ' = [some (.ref μ.length), none, none, none] ∧ μ' = μ ++ [.lst [d1, d2]] ∧ Hand d1 ∧ Hand d2) ?_ ?_
  · simp only [w_bnd, w_ret, w_eC, w_var, w_opS, w_op, w_N, w_CB, w_CS, w_nil, w_cons, w_call, w_if, w_B, w_and, w_or, w_not, w_vAnd, w_vOr, w_vNot, w_neg, w_tup, w_lstF, w_lstC, w_chain, w_fld, w_sl, w_oN, w_oS, w_isLs, w_isSt, w_me, w_meth, w_methS, w_make, w_fmt, w_frz, w_isi, s_seq, s_next, s_set, s_asg, s_expr, s_ret, s_retN, s_if, s_cnt, s_brk, s_no, s_par, s_par3, s_tp, s_gsNil, s_gsCons, s_fld, s_fldT, s_sub, s_aug, s_fldA, s_augS, s_for, w_lc, w_src, w_srcL, w_srcT, w_srcS, w_srcR, w_rng1, wO_some, wO_none, List.getElem?_cons_zero, List.getElem?_cons_succ, List.set_cons_zero, List.set_cons_succ, fin_v, fin_lF, fin_lT]
    exact ⟨by simp, by simp, by simp, _, _, by first | trivial | rfl, by first | trivial | rfl, hand1, hand2⟩
  rintro Γ' μ' ⟨d1, d2, rfl, rfl, h1, h2⟩
  refine q_seq (fun Γ' μ' => ∃ d3, Γ' = [some (.ref μ.length), none, none, none] ∧ μ' = μ ++ [.lst [d1, d2, d3]] ∧ Hand d3) ?_ ?_
  · simp only [w_bnd, w_ret, w_eC, w_var, w_opS, w_op, w_N, w_CB, w_CS, w_nil, w_cons, w_call, w_if, w_B, w_and, w_or, w_not, w_vAnd, w_vOr, w_vNot, w_neg, w_tup, w_lstF, w_lstC, w_chain, w_fld, w_sl, w_oN, w_oS, w_isLs, w_isSt, w_me, w_meth, w_methS, w_make, w_fmt, w_frz, w_isi, s_seq, s_next, s_set, s_asg, s_expr, s_ret, s_retN, s_if, s_cnt, s_brk, s_no, s_par, s_par3, s_tp, s_gsNil, s_gsCons, s_fld, s_fldT, s_sub, s_aug, s_fldA, s_augS, s_for, w_lc, w_src, w_srcL, w_srcT, w_srcS, w_srcR, w_rng1, wO_some, wO_none, List.getElem?_cons_zero, List.getElem?_cons_succ, List.set_cons_zero, List.set_cons_succ, fin_v, fin_lF, fin_lT, l_ref (show (μ ++ [O.lst [d1, d2]])[μ.length]? = some (.lst [d1, d2]) by rw [new_at0 hN]; rfl)]
    refine ⟨by simp, ?_⟩
    rw [o_append (ds := [d1, d2]) (by rw [new_at0 hN]; rfl) (by simp [big]), wO_some, new_set0 hN]
    exact ⟨_, by first | trivial | rfl, by first | trivial | rfl, hand3⟩
  rintro Γ' μ' ⟨d3, rfl, rfl, h3⟩
  refine q_seq (fun Γ' μ' => ∃ l ds, Γ' = [some (.ref (μ.length + 1)), none, none, none] ∧ μ' = μ ++ l ∧ l[1]? = some (.lst ds) ∧ ds.length = 5 ∧ ∀ d ∈ ds, Hand d) ?_ ?_
  · simp only [w_bnd, w_ret, w_eC, w_var, w_opS, w_op, w_N, w_CB, w_CS, w_nil, w_cons, w_call, w_if, w_B, w_and, w_or, w_not, w_vAnd, w_vOr, w_vNot, w_neg, w_tup, w_lstF, w_lstC, w_chain, w_fld, w_sl, w_oN, w_oS, w_isLs, w_isSt, w_me, w_meth, w_methS, w_make, w_fmt, w_frz, w_isi, s_seq, s_next, s_set, s_asg, s_expr, s_ret, s_retN, s_if, s_cnt, s_brk, s_no, s_par, s_par3, s_tp, s_gsNil, s_gsCons, s_fld, s_fldT, s_sub, s_aug, s_fldA, s_augS, s_for, w_lc, w_src, w_srcL, w_srcT, w_srcS, w_srcR, w_rng1, wO_some, wO_none, List.getElem?_cons_zero, List.getElem?_cons_succ, List.set_cons_zero, List.set_cons_succ, fin_v, fin_lF, fin_lT]
    refine ⟨by simp, by simp, by simp, ?_⟩
    rw [o_addL (ds := [d1, d2, d3]) (l_ref (by rw [new_at0 hN]; rfl)) l_lst (by simp [big]), wO_some, fin_lT]
    have e : (μ ++ [O.lst [d1, d2, d3]]).length = μ.length + 1 := by simp
    rw [e, List.append_assoc]
    refine ⟨_, _, by first | trivial | rfl, rfl, rfl, rfl, fun d hd => ?_⟩
    simp only [List.cons_append, List.nil_append, List.mem_cons, List.not_mem_nil, or_false] at hd
    rcases hd with rfl | rfl | rfl | rfl | rfl
    · exact h1
    · exact h2
    · exact h3
    · exact hand4
    · exact hand5
  rintro Γ' μ' ⟨l, ds, rfl, rfl, hl, hd5, hds⟩
  have hat : (μ ++ l)[μ.length + 1]? = some (.lst ds) := by rw [new_at hN]; exact hl
  have esrc : ∀ Q' : Src → Sto → Prop, Q' (.cel (μ.length + 1)) (μ ++ l) → wM (srcOf (.ref (μ.length + 1))) [some (.ref (μ.length + 1)), none, none, none] (μ ++ l) Q' := fun Q' hq => by
    unfold wM srcOf
    simp only [hat]
    exact hq
  simp only [w_bnd, w_ret, w_eC, w_var, w_opS, w_op, w_N, w_CB, w_CS, w_nil, w_cons, w_call, w_if, w_B, w_and, w_or, w_not, w_vAnd, w_vOr, w_vNot, w_neg, w_tup, w_lstF, w_lstC, w_chain, w_fld, w_sl, w_oN, w_oS, w_isLs, w_isSt, w_me, w_meth, w_methS, w_make, w_fmt, w_frz, w_isi, s_seq, s_next, s_set, s_asg, s_expr, s_ret, s_retN, s_if, s_cnt, s_brk, s_no, s_par, s_par3, s_tp, s_gsNil, s_gsCons, s_fld, s_fldT, s_sub, s_aug, s_fldA, s_augS, s_for, w_lc, w_src, w_srcL, w_srcT, w_srcS, w_srcR, w_rng1, wO_some, wO_none, List.getElem?_cons_zero, List.getElem?_cons_succ, List.set_cons_zero, List.set_cons_succ, fin_v, fin_lF, fin_lT]
  refine esrc _ ?_
  have ef : Src.fuel (μ ++ l) (.cel (μ.length + 1)) = ds.length + 1 := by simp only [Src.fuel, hat]
  rw [ef]
  refine lc_cel (ds := ds) (fun i acc μ1 => ∃ l', μ1 = μ ++ l ++ l' ∧ acc = List.replicate i (.bl true)) ?_ ?_ ?_ _ 0 [] _ (by omega) (Nat.zero_le _) ⟨[], by simp, rfl⟩
  · rintro i acc μ1 ⟨l', rfl, _⟩
    rw [List.getElem?_append_left (lt_at hat)]
    exact hat
  · rintro i d acc μ1 hd ⟨l', rfl, rfl⟩
    have hi : i < ds.length := (List.getElem?_eq_some_iff.mp hd).1
    obtain ⟨t, as, rfl, hG, hS, ht⟩ := hds d (List.mem_of_getElem? hd)
    refine ⟨_, rfl, ?_⟩
    show wM (ret true) _ _ _
    rw [w_ret, if_pos rfl]
    show wM _ [some (.ref (μ.length + 1)), some (.str t), some (.str (wB as)), some (.int (cB as : Int))] _ _
    simp only [w_bnd, w_ret, w_eC, w_var, w_opS, w_op, w_N, w_CB, w_CS, w_nil, w_cons, w_call, w_if, w_B, w_and, w_or, w_not, w_vAnd, w_vOr, w_vNot, w_neg, w_tup, w_lstF, w_lstC, w_chain, w_fld, w_sl, w_oN, w_oS, w_isLs, w_isSt, w_me, w_meth, w_methS, w_make, w_fmt, w_frz, w_isi, s_seq, s_next, s_set, s_asg, s_expr, s_ret, s_retN, s_if, s_cnt, s_brk, s_no, s_par, s_par3, s_tp, s_gsNil, s_gsCons, s_fld, s_fldT, s_sub, s_aug, s_fldA, s_augS, s_for, w_lc, w_src, w_srcL, w_srcT, w_srcS, w_srcR, w_rng1, wO_some, wO_none, List.getElem?_cons_zero, List.getElem?_cons_succ, List.set_cons_zero, List.set_cons_succ, fin_v, fin_lF, fin_lT]
    refine make_ok hG hS (by omega) fun l1 hP1 => ?_
    simp only [one_str hP1, wO_some, o_eqS, fin_v]
    refine ⟨_, rfl, ?_⟩
    simp only [decide_true, Bool.false_eq_true, if_false, if_true]
    refine make_ok hG hS (by omega) fun l2 hP2 => ?_
    simp only [one_len' hP2, wO_some, o_eqI, fin_v]
    refine ⟨by simp [big]; omega, l' ++ l1 ++ l2, by simp, ?_⟩
    simp [List.replicate_succ']
  · rintro acc μ1 ⟨l', rfl, rfl⟩
    rw [hd5]
    have e : gAll [.lst (List.replicate 5 (.bl true))] (μ ++ l ++ l') = some (.v (.bl true)) := rfl
    simp only [fin_lF, e, wO_some, fin_v]
    rw [List.append_assoc, leave_pure (d' := .bl true) rfl rfl]
    exact hQ
end K01

set_option maxRecDepth 100000
set_option maxHeartbeats 2000000
namespace K01
open PySem L2 PyProof.Rows PySem.Spec Ab
theorem f_bodyK {n k : Nat} {m : SM} {ds : List D} {μ : Sto} {Q : D → Sto → Prop} : wF (bodyK n k m) ds μ Q = (ds.length = k ∧ wS m (startD n ds) μ { n := fun _ μ1 => Q .non μ1, r := fun d μ1 => Q d μ1, b := fun _ _ => False, c := fun _ _ => False }) := by
  unfold wF bodyK wS
  by_cases h : ds.length = k
  · simp only [h, if_true, true_and]
    generalize m (startD n ds) μ = z
    cases z with
    | none => rfl
    | some r => cases r <;> rfl
  · simp [h]
theorem bag_ok {ns : List Int} {at_ : Nat} {μ : Sto} {Q : D → Sto → Prop} (ha : at_ ≤ 100) (hQ : ∀ o, Bag (μ ++ [o]) μ.length 0 → Q (.ref μ.length) (μ ++ [o])) : wF F_l_bag [.ro ns, .int (at_ : Int)] μ Q := by
  unfold F_l_bag
  rw [f_bodyK]
  refine ⟨rfl, ?_⟩
  show wS _ [some (.ro ns), some (.int (at_ : Int)), none, none] μ _
  unfold m_l_bag
  refine q_seq (fun Γ' μ' => ∃ c : Int, Γ' = [some (.ro ns), some (.int (at_ : Int)), some (.int c), none] ∧ μ' = μ) ?_ ?_
  · simp only [w_bnd, w_ret, w_eC, w_var, w_opS, w_op, w_N, w_CB, w_CS, w_nil, w_cons, w_call, w_if, w_B, w_and, w_or, w_not, w_vAnd, w_vOr, w_vNot, w_neg, w_tup, w_lstF, w_lstC, w_chain, w_fld, w_sl, w_oN, w_oS, w_isLs, w_isSt, w_me, w_meth, w_methS, w_make, w_fmt, w_frz, w_isi, s_seq, s_next, s_set, s_asg, s_expr, s_ret, s_retN, s_if, s_cnt, s_brk, s_no, s_par, s_par3, s_tp, s_gsNil, s_gsCons, s_fld, s_fldT, s_sub, s_aug, s_fldA, s_augS, s_for, w_lc, w_src, w_srcL, w_srcT, w_srcS, w_srcR, w_rng1, wO_some, wO_none, List.getElem?_cons_zero, List.getElem?_cons_succ, List.set_cons_zero, List.set_cons_succ, fin_v, fin_lF, fin_lT, o_lenR, o_lt]
    refine ⟨_, rfl, ?_⟩
    by_cases h : at_ < ns.length
    · rw [decide_eq_true (by omega), if_pos rfl]
      have e : gIx (.ro ns) (.int (at_ : Int)) μ = some (.int ns[at_], μ) := by
        simp [gIx, ix_ok (List.getElem?_eq_getElem h)]
      rw [e, wO_some]
      exact ⟨_, by first | trivial | rfl, by first | trivial | rfl⟩
    · rw [decide_eq_false (by omega)]
      simp only [Bool.false_eq_true, if_false]
      exact ⟨_, by first | trivial | rfl, by first | trivial | rfl⟩
  rintro Γ' μ' ⟨c, rfl, rfl⟩
  refine q_seq (fun Γ' μ1 => ∃ a : Int, Γ' = [some (.ro ns), some (.int (at_ : Int)), some (.int c), some (.int a)] ∧ μ1 = μ' ∧ 0 ≤ a) ?_ ?_
  · have e1 : gPow (.int 10) (.int 18) μ' = some (.v (.int (10 ^ (18 : Int).toNat))) := o_pow (by decide)
    simp only [w_bnd, w_ret, w_eC, w_var, w_opS, w_op, w_N, w_CB, w_CS, w_nil, w_cons, w_call, w_if, w_B, w_and, w_or, w_not, w_vAnd, w_vOr, w_vNot, w_neg, w_tup, w_lstF, w_lstC, w_chain, w_fld, w_sl, w_oN, w_oS, w_isLs, w_isSt, w_me, w_meth, w_methS, w_make, w_fmt, w_frz, w_isi, s_seq, s_next, s_set, s_asg, s_expr, s_ret, s_retN, s_if, s_cnt, s_brk, s_no, s_par, s_par3, s_tp, s_gsNil, s_gsCons, s_fld, s_fldT, s_sub, s_aug, s_fldA, s_augS, s_for, w_lc, w_src, w_srcL, w_srcT, w_srcS, w_srcR, w_rng1, wO_some, wO_none, List.getElem?_cons_zero, List.getElem?_cons_succ, List.set_cons_zero, List.set_cons_succ, fin_v, fin_lF, fin_lT, o_abs, e1, o_ge]
    have hab : 0 ≤ (if c < 0 then -c else c) := by split <;> omega
    generalize (if c < 0 then -c else c) = y at hab ⊢
    refine ⟨_, rfl, ?_⟩
    by_cases hy : (10 : Int) ^ (18 : Int).toNat ≤ y
    · rw [decide_eq_true hy, if_pos rfl]
      exact ⟨y, by first | trivial | rfl, by first | trivial | rfl, hab⟩
    · rw [decide_eq_false hy, if_neg (by simp)]
      exact ⟨0, by first | trivial | rfl, by first | trivial | rfl, Int.le_refl _⟩
  rintro Γ' μ1 ⟨a, rfl, rfl, ha0⟩
  have h0 : 0 ≤ c % 2305843009213693951 := Int.emod_nonneg _ (by decide)
  have h1 : c % 2305843009213693951 < 2305843009213693951 := Int.emod_lt_of_pos _ (by decide)
  simp only [w_bnd, w_ret, w_eC, w_var, w_opS, w_op, w_N, w_CB, w_CS, w_nil, w_cons, w_call, w_if, w_B, w_and, w_or, w_not, w_vAnd, w_vOr, w_vNot, w_neg, w_tup, w_lstF, w_lstC, w_chain, w_fld, w_sl, w_oN, w_oS, w_isLs, w_isSt, w_me, w_meth, w_methS, w_make, w_fmt, w_frz, w_isi, s_seq, s_next, s_set, s_asg, s_expr, s_ret, s_retN, s_if, s_cnt, s_brk, s_no, s_par, s_par3, s_tp, s_gsNil, s_gsCons, s_fld, s_fldT, s_sub, s_aug, s_fldA, s_augS, s_for, w_lc, w_src, w_srcL, w_srcT, w_srcS, w_srcR, w_rng1, wO_some, wO_none, List.getElem?_cons_zero, List.getElem?_cons_succ, List.set_cons_zero, List.set_cons_succ, fin_v, fin_lF, fin_lT, o_int, o_mod (show (0 : Int) < 2305843009213693951 by decide)]
  generalize c % 2305843009213693951 = z at h0 h1 ⊢
  simp only [o_mul (show -(2 ^ 64) < z ∧ z < 2 ^ 64 by omega), o_mul (show -(2 ^ 64) < (8171 : Int) ∧ (8171 : Int) < 2 ^ 64 by decide), wO_some, fin_v, o_add]
  refine ⟨by simp, hQ _ ⟨a, z * 3 + 8171 * (at_ : Int) + 5003, 0, by rw [new_at0 rfl]; rfl, ha0, ?_, by decide, by decide⟩⟩
  omega
theorem plain (ns : List Int) (h : ns.length ≤ 63) (hb : ∀ z ∈ ns, Builtin.Int.intBits z ≤ 1048576) : ∃ μ', F_law [.ro ns] [] = some (.ok (.bl true) μ') := by
  have key : wF F_law [.ro ns] [] fun d _ => d = .bl true := by
    unfold F_law
    rw [f_body]
    refine ⟨rfl, ?_⟩
    show wS _ [some (.ro ns), none, none, none] [] _
    unfold m_law
    refine q_seq (fun Γ' μ' => ∃ x1 x2 x3, Γ' = [some (.ro ns), x1, x2, x3]) ?_ ?_
    · have hmm : ∃ m : Nat, m ≤ 5 ∧ gMax [.int 1, .int (if (ns.length : Int) < 5 then (ns.length : Int) else 5)] [] = some (.v (.int (m : Int))) := by
        rw [o_max]
        by_cases h5 : (ns.length : Int) < 5
        · rw [if_pos h5]
          by_cases h1 : (ns.length : Int) > 1
          · rw [if_pos h1]; exact ⟨ns.length, by omega, rfl⟩
          · rw [if_neg h1]; exact ⟨1, by omega, rfl⟩
        · rw [if_neg h5]
          exact ⟨5, by omega, rfl⟩
      obtain ⟨m, hm, hmx⟩ := hmm
      simp only [w_bnd, w_ret, w_eC, w_var, w_opS, w_op, w_N, w_CB, w_CS, w_nil, w_cons, w_call, w_if, w_B, w_and, w_or, w_not, w_vAnd, w_vOr, w_vNot, w_neg, w_tup, w_lstF, w_lstC, w_chain, w_fld, w_sl, w_oN, w_oS, w_isLs, w_isSt, w_me, w_meth, w_methS, w_make, w_fmt, w_frz, w_isi, s_seq, s_next, s_set, s_asg, s_expr, s_ret, s_retN, s_if, s_cnt, s_brk, s_no, s_par, s_par3, s_tp, s_gsNil, s_gsCons, s_fld, s_fldT, s_sub, s_aug, s_fldA, s_augS, s_for, w_lc, w_src, w_srcL, w_srcT, w_srcS, w_srcR, w_rng1, wO_some, wO_none, List.getElem?_cons_zero, List.getElem?_cons_succ, List.set_cons_zero, List.set_cons_succ, fin_v, fin_lF, fin_lT, o_lenR, o_min, hmx]
      refine ⟨_, rfl, by omega, ?_⟩
      have e0 : (m : Int).toNat = m := by omega
      rw [e0]
      refine s_fix (fun i Γ' μ' => ∃ x1 x2 x3, Γ' = [some (.ro ns), x1, x2, x3]) ⟨none, none, none, rfl⟩ ?_ (fun _ _ h => h)
      rintro i d Γ1 μ1 hd ⟨x1, x2, x3, rfl⟩
      have hi : i < m := by
        have := (List.getElem?_eq_some_iff.mp hd).1
        simpa [intsD] using this
      have hd' : d = .int (i : Int) := by
        simp [intsD, hi] at hd
        exact hd.symm
      subst hd'
      simp only [w_bnd, w_ret, w_eC, w_var, w_opS, w_op, w_N, w_CB, w_CS, w_nil, w_cons, w_call, w_if, w_B, w_and, w_or, w_not, w_vAnd, w_vOr, w_vNot, w_neg, w_tup, w_lstF, w_lstC, w_chain, w_fld, w_sl, w_oN, w_oS, w_isLs, w_isSt, w_me, w_meth, w_methS, w_make, w_fmt, w_frz, w_isi, s_seq, s_next, s_set, s_asg, s_expr, s_ret, s_retN, s_if, s_cnt, s_brk, s_no, s_par, s_par3, s_tp, s_gsNil, s_gsCons, s_fld, s_fldT, s_sub, s_aug, s_fldA, s_augS, s_for, w_lc, w_src, w_srcL, w_srcT, w_srcS, w_srcR, w_rng1, wO_some, wO_none, List.getElem?_cons_zero, List.getElem?_cons_succ, List.set_cons_zero, List.set_cons_succ, fin_v, fin_lF, fin_lT]
      refine bag_ok (by omega) fun o hB => ?_
      refine ⟨_, rfl, by decide, ?_⟩
      refine s_fix (fun j Γ' μ' => ∃ x3, Γ' = [some (.ro ns), some (.int (i : Int)), some (.ref μ1.length), x3] ∧ Bag μ' μ1.length (j * 5000000000)) ⟨x3, rfl, by simpa using hB⟩ ?_ ?_
      · rintro j d Γ2 μ2 hd ⟨x3, rfl, hB2⟩
        have hj : j < 3 := by
          have := (List.getElem?_eq_some_iff.mp hd).1
          simpa [intsD] using this
        simp only [w_bnd, w_ret, w_eC, w_var, w_opS, w_op, w_N, w_CB, w_CS, w_nil, w_cons, w_call, w_if, w_B, w_and, w_or, w_not, w_vAnd, w_vOr, w_vNot, w_neg, w_tup, w_lstF, w_lstC, w_chain, w_fld, w_sl, w_oN, w_oS, w_isLs, w_isSt, w_me, w_meth, w_methS, w_make, w_fmt, w_frz, w_isi, s_seq, s_next, s_set, s_asg, s_expr, s_ret, s_retN, s_if, s_cnt, s_brk, s_no, s_par, s_par3, s_tp, s_gsNil, s_gsCons, s_fld, s_fldT, s_sub, s_aug, s_fldA, s_augS, s_for, w_lc, w_src, w_srcL, w_srcT, w_srcS, w_srcR, w_rng1, wO_some, wO_none, List.getElem?_cons_zero, List.getElem?_cons_succ, List.set_cons_zero, List.set_cons_succ, fin_v, fin_lF, fin_lT]
        refine right_ok hB2 (by omega) fun o' hB3 => ⟨_, rfl, ?_⟩
        simp only [Bool.not_true, Bool.false_eq_true, if_false]
        refine ⟨_, by first | trivial | rfl, ?_⟩
        have : (j + 1) * 5000000000 = j * 5000000000 + 5000000000 := by omega
        rw [this]
        exact hB3
      · rintro Γ2 μ2 ⟨x3, rfl, hB2⟩
        exact ⟨_, _, _, rfl⟩
    rintro Γ' μ' ⟨x1, x2, x3, rfl⟩
    simp only [w_bnd, w_ret, w_eC, w_var, w_opS, w_op, w_N, w_CB, w_CS, w_nil, w_cons, w_call, w_if, w_B, w_and, w_or, w_not, w_vAnd, w_vOr, w_vNot, w_neg, w_tup, w_lstF, w_lstC, w_chain, w_fld, w_sl, w_oN, w_oS, w_isLs, w_isSt, w_me, w_meth, w_methS, w_make, w_fmt, w_frz, w_isi, s_seq, s_next, s_set, s_asg, s_expr, s_ret, s_retN, s_if, s_cnt, s_brk, s_no, s_par, s_par3, s_tp, s_gsNil, s_gsCons, s_fld, s_fldT, s_sub, s_aug, s_fldA, s_augS, s_for, w_lc, w_src, w_srcL, w_srcT, w_srcS, w_srcR, w_rng1, wO_some, wO_none, List.getElem?_cons_zero, List.getElem?_cons_succ, List.set_cons_zero, List.set_cons_succ, fin_v, fin_lF, fin_lT]
    refine by_hand_ok ?_
    unfold leave
    split <;> rfl
  obtain ⟨d, μ', e, rfl⟩ := key.get
  exact ⟨μ', e⟩
end K01

set_option maxRecDepth 100000
set_option maxHeartbeats 4000000
namespace K01
open PySem L2 PyProof.Rows PySem.Spec Ab
def cnOf : Nat → List Str := fun c => match c with | 0 => ["pieces", "at"] | 1 => ["letters", "follow"] | 2 => ["pieces", "tree", "places", "is_empty", "last", "written"] | _ => []
section
variable {K : PySem.W.Frag} {h : Heap} {mg : Str → Option Value} {fa : Addr}
theorem all_mk {l : PySem.W.OpenLaw} {w : World} {C0 : Addr}
    {C1 : Addr}
    {C2 : Addr}
    {f0 : Addr} {od0 an0 : Option Addr} {sl0 : Array (Option Value)} {oc0 kV0 dc0 pm0 cd0 ct0 : Value}
    {f1 : Addr} {od1 an1 : Option Addr} {sl1 : Array (Option Value)} {oc1 kV1 dc1 pm1 cd1 ct1 : Value}
    {f2 : Addr} {od2 an2 : Option Addr} {sl2 : Array (Option Value)} {oc2 kV2 dc2 pm2 cd2 ct2 : Value}
    {f3 : Addr} {od3 an3 : Option Addr} {sl3 : Array (Option Value)} {oc3 kV3 dc3 pm3 cd3 ct3 : Value}
    {f4 : Addr} {od4 an4 : Option Addr} {sl4 : Array (Option Value)} {oc4 kV4 dc4 pm4 cd4 ct4 : Value}
    {f5 : Addr} {od5 an5 : Option Addr} {sl5 : Array (Option Value)} {oc5 kV5 dc5 pm5 cd5 ct5 : Value}
    {f6 : Addr} {od6 an6 : Option Addr} {sl6 : Array (Option Value)} {oc6 kV6 dc6 pm6 cd6 ct6 : Value}
    {f7 : Addr} {od7 an7 : Option Addr} {sl7 : Array (Option Value)} {oc7 kV7 dc7 pm7 cd7 ct7 : Value}
    {f8 : Addr} {od8 an8 : Option Addr} {sl8 : Array (Option Value)} {oc8 kV8 dc8 pm8 cd8 ct8 : Value}
    {f9 : Addr} {od9 an9 : Option Addr} {sl9 : Array (Option Value)} {oc9 kV9 dc9 pm9 cd9 ct9 : Value}
    {f10 : Addr} {od10 an10 : Option Addr} {sl10 : Array (Option Value)} {oc10 kV10 dc10 pm10 cd10 ct10 : Value}
    {f11 : Addr} {od11 an11 : Option Addr} {sl11 : Array (Option Value)} {oc11 kV11 dc11 pm11 cd11 ct11 : Value}
    {f12 : Addr} {od12 an12 : Option Addr} {sl12 : Array (Option Value)} {oc12 kV12 dc12 pm12 cd12 ct12 : Value}
    {f13 : Addr} {od13 an13 : Option Addr} {sl13 : Array (Option Value)} {oc13 kV13 dc13 pm13 cd13 ct13 : Value}
    {f14 : Addr} {od14 an14 : Option Addr} {sl14 : Array (Option Value)} {oc14 kV14 dc14 pm14 cd14 ct14 : Value}
    {f15 : Addr} {od15 an15 : Option Addr} {sl15 : Array (Option Value)} {oc15 kV15 dc15 pm15 cd15 ct15 : Value}
    {f16 : Addr} {od16 an16 : Option Addr} {sl16 : Array (Option Value)} {oc16 kV16 dc16 pm16 cd16 ct16 : Value}
    {f17 : Addr} {od17 an17 : Option Addr} {sl17 : Array (Option Value)} {oc17 kV17 dc17 pm17 cd17 ct17 : Value}
    {f18 : Addr} {od18 an18 : Option Addr} {sl18 : Array (Option Value)} {oc18 kV18 dc18 pm18 cd18 ct18 : Value}
    {f19 : Addr} {od19 an19 : Option Addr} {sl19 : Array (Option Value)} {oc19 kV19 dc19 pm19 cd19 ct19 : Value}
    {f20 : Addr} {od20 an20 : Option Addr} {sl20 : Array (Option Value)} {oc20 kV20 dc20 pm20 cd20 ct20 : Value}
    {f21 : Addr} {od21 an21 : Option Addr} {sl21 : Array (Option Value)} {oc21 kV21 dc21 pm21 cd21 ct21 : Value}
    {f22 : Addr} {od22 an22 : Option Addr} {sl22 : Array (Option Value)} {oc22 kV22 dc22 pm22 cd22 ct22 : Value}
    {f23 : Addr} {od23 an23 : Option Addr} {sl23 : Array (Option Value)} {oc23 kV23 dc23 pm23 cd23 ct23 : Value}
    {f24 : Addr} {od24 an24 : Option Addr} {sl24 : Array (Option Value)} {oc24 kV24 dc24 pm24 cd24 ct24 : Value}
    {f25 : Addr} {od25 an25 : Option Addr} {sl25 : Array (Option Value)} {oc25 kV25 dc25 pm25 cd25 ct25 : Value}
    {f26 : Addr} {od26 an26 : Option Addr} {sl26 : Array (Option Value)} {oc26 kV26 dc26 pm26 cd26 ct26 : Value}
    {f27 : Addr} {od27 an27 : Option Addr} {sl27 : Array (Option Value)} {oc27 kV27 dc27 pm27 cd27 ct27 : Value}
    {f28 : Addr} {od28 an28 : Option Addr} {sl28 : Array (Option Value)} {oc28 kV28 dc28 pm28 cd28 ct28 : Value}
    {f29 : Addr} {od29 an29 : Option Addr} {sl29 : Array (Option Value)} {oc29 kV29 dc29 pm29 cd29 ct29 : Value}
    {f30 : Addr} {od30 an30 : Option Addr} {sl30 : Array (Option Value)} {oc30 kV30 dc30 pm30 cd30 ct30 : Value}
    {f31 : Addr} {od31 an31 : Option Addr} {sl31 : Array (Option Value)} {oc31 kV31 dc31 pm31 cd31 ct31 : Value}
    {f32 : Addr} {od32 an32 : Option Addr} {sl32 : Array (Option Value)} {oc32 kV32 dc32 pm32 cd32 ct32 : Value}
    {f33 : Addr} {od33 an33 : Option Addr} {sl33 : Array (Option Value)} {oc33 kV33 dc33 pm33 cd33 ct33 : Value}
    {f34 : Addr} {od34 an34 : Option Addr} {sl34 : Array (Option Value)} {oc34 kV34 dc34 pm34 cd34 ct34 : Value}
    {t_MOST_BRACKETED : Tok}
    {t_MOST_DEPTH : Tok}
    {t_MOST_PLACES : Tok}
    {t_MOST_QUOTED : Tok}
    {r_REPEATS : Addr} {od_REPEATS : Option Addr} {n_REPEATS : Nat} {sl_REPEATS : Array (Option Value)} {t_REPEATS_0 t_REPEATS_1 t_REPEATS_2 : Tok}
    {t_SIGNS : Tok} (X : K.In h) (G : h.Ns mainGlobals mg) (hfa : mg "law" = some (.ref fa))
    (aC0 : PySem.W.nsIn K mainGlobals "Reader" = some (some (.ref C0)))
    (aC1 : PySem.W.nsIn K mainGlobals "Places" = some (some (.ref C1)))
    (aC2 : PySem.W.nsIn K mainGlobals "Pattern" = some (some (.ref C2)))
    (a0 : PySem.W.nsIn K mainGlobals "is_letters" = some (some (.ref f0)))
    (l0 : K.lookup f0 = some ⟨oc0, od0, .func (PySem.W.fnOf "is_letters" "is_letters" (defArgs s_is_letters) (defBody s_is_letters) (defScope s_is_letters) .none kV0 dc0 pm0 an0 cd0 ct0), sl0⟩)
    (c0 : PySem.W.codeIn K cd0 "is_letters" = true)
    (k0 : PySem.W.keepIn K (.ref f0) = true)
    (a1 : PySem.W.nsIn K mainGlobals "is_quoted" = some (some (.ref f1)))
    (l1 : K.lookup f1 = some ⟨oc1, od1, .func (PySem.W.fnOf "is_quoted" "is_quoted" (defArgs s_is_quoted) (defBody s_is_quoted) (defScope s_is_quoted) .none kV1 dc1 pm1 an1 cd1 ct1), sl1⟩)
    (c1 : PySem.W.codeIn K cd1 "is_quoted" = true)
    (k1 : PySem.W.keepIn K (.ref f1) = true)
    (a2 : PySem.W.nsIn K mainGlobals "is_bracketed" = some (some (.ref f2)))
    (l2 : K.lookup f2 = some ⟨oc2, od2, .func (PySem.W.fnOf "is_bracketed" "is_bracketed" (defArgs s_is_bracketed) (defBody s_is_bracketed) (defScope s_is_bracketed) .none kV2 dc2 pm2 an2 cd2 ct2), sl2⟩)
    (c2 : PySem.W.codeIn K cd2 "is_bracketed" = true)
    (k2 : PySem.W.keepIn K (.ref f2) = true)
    (a3 : PySem.W.nsIn K mainGlobals "piece_at" = some (some (.ref f3)))
    (l3 : K.lookup f3 = some ⟨oc3, od3, .func (PySem.W.fnOf "piece_at" "piece_at" (defArgs s_piece_at) (defBody s_piece_at) (defScope s_piece_at) .none kV3 dc3 pm3 an3 cd3 ct3), sl3⟩)
    (c3 : PySem.W.codeIn K cd3 "piece_at" = true)
    (k3 : PySem.W.keepIn K (.ref f3) = true)
    (a4 : PySem.W.nsIn K mainGlobals "pieces_of" = some (some (.ref f4)))
    (l4 : K.lookup f4 = some ⟨oc4, od4, .func (PySem.W.fnOf "pieces_of" "pieces_of" (defArgs s_pieces_of) (defBody s_pieces_of) (defScope s_pieces_of) .none kV4 dc4 pm4 an4 cd4 ct4), sl4⟩)
    (c4 : PySem.W.codeIn K cd4 "pieces_of" = true)
    (k4 : PySem.W.keepIn K (.ref f4) = true)
    (a5 : PySem.W.nsIn K mainGlobals "shown" = some (some (.ref f5)))
    (l5 : K.lookup f5 = some ⟨oc5, od5, .func (PySem.W.fnOf "shown" "shown" (defArgs s_shown) (defBody s_shown) (defScope s_shown) .none kV5 dc5 pm5 an5 cd5 ct5), sl5⟩)
    (c5 : PySem.W.codeIn K cd5 "shown" = true)
    (k5 : PySem.W.keepIn K (.ref f5) = true)
    (a6 : PySem.W.findIn K (.ref C0) "__init__" = some (some (.ref f6)))
    (l6 : K.lookup f6 = some ⟨oc6, od6, .func (PySem.W.fnOf "__init__" "Reader.__init__" (defArgs s_Reader_init) (defBody s_Reader_init) (defScope s_Reader_init) .none kV6 dc6 pm6 an6 cd6 ct6), sl6⟩)
    (c6 : PySem.W.codeIn K cd6 "Reader.__init__" = true)
    (k6 : PySem.W.keepIn K (.ref f6) = true)
    (i6 : PySem.W.isFn K (.ref f6) = true)
    (a7 : PySem.W.findIn K (.ref C0) "is_here" = some (some (.ref f7)))
    (l7 : K.lookup f7 = some ⟨oc7, od7, .func (PySem.W.fnOf "is_here" "Reader.is_here" (defArgs s_Reader_is_here) (defBody s_Reader_is_here) (defScope s_Reader_is_here) .none kV7 dc7 pm7 an7 cd7 ct7), sl7⟩)
    (c7 : PySem.W.codeIn K cd7 "Reader.is_here" = true)
    (k7 : PySem.W.keepIn K (.ref f7) = true)
    (i7 : PySem.W.isFn K (.ref f7) = true)
    (a8 : PySem.W.findIn K (.ref C0) "begins_item" = some (some (.ref f8)))
    (l8 : K.lookup f8 = some ⟨oc8, od8, .func (PySem.W.fnOf "begins_item" "Reader.begins_item" (defArgs s_Reader_begins_item) (defBody s_Reader_begins_item) (defScope s_Reader_begins_item) .none kV8 dc8 pm8 an8 cd8 ct8), sl8⟩)
    (c8 : PySem.W.codeIn K cd8 "Reader.begins_item" = true)
    (k8 : PySem.W.keepIn K (.ref f8) = true)
    (i8 : PySem.W.isFn K (.ref f8) = true)
    (a9 : PySem.W.findIn K (.ref C0) "branches" = some (some (.ref f9)))
    (l9 : K.lookup f9 = some ⟨oc9, od9, .func (PySem.W.fnOf "branches" "Reader.branches" (defArgs s_Reader_branches) (defBody s_Reader_branches) (defScope s_Reader_branches) .none kV9 dc9 pm9 an9 cd9 ct9), sl9⟩)
    (c9 : PySem.W.codeIn K cd9 "Reader.branches" = true)
    (k9 : PySem.W.keepIn K (.ref f9) = true)
    (i9 : PySem.W.isFn K (.ref f9) = true)
    (a10 : PySem.W.findIn K (.ref C0) "branch" = some (some (.ref f10)))
    (l10 : K.lookup f10 = some ⟨oc10, od10, .func (PySem.W.fnOf "branch" "Reader.branch" (defArgs s_Reader_branch) (defBody s_Reader_branch) (defScope s_Reader_branch) .none kV10 dc10 pm10 an10 cd10 ct10), sl10⟩)
    (c10 : PySem.W.codeIn K cd10 "Reader.branch" = true)
    (k10 : PySem.W.keepIn K (.ref f10) = true)
    (i10 : PySem.W.isFn K (.ref f10) = true)
    (a11 : PySem.W.findIn K (.ref C0) "item" = some (some (.ref f11)))
    (l11 : K.lookup f11 = some ⟨oc11, od11, .func (PySem.W.fnOf "item" "Reader.item" (defArgs s_Reader_item) (defBody s_Reader_item) (defScope s_Reader_item) .none kV11 dc11 pm11 an11 cd11 ct11), sl11⟩)
    (c11 : PySem.W.codeIn K cd11 "Reader.item" = true)
    (k11 : PySem.W.keepIn K (.ref f11) = true)
    (i11 : PySem.W.isFn K (.ref f11) = true)
    (a12 : PySem.W.findIn K (.ref C0) "whole" = some (some (.ref f12)))
    (l12 : K.lookup f12 = some ⟨oc12, od12, .func (PySem.W.fnOf "whole" "Reader.whole" (defArgs s_Reader_whole) (defBody s_Reader_whole) (defScope s_Reader_whole) .none kV12 dc12 pm12 an12 cd12 ct12), sl12⟩)
    (c12 : PySem.W.codeIn K cd12 "Reader.whole" = true)
    (k12 : PySem.W.keepIn K (.ref f12) = true)
    (i12 : PySem.W.isFn K (.ref f12) = true)
    (a13 : PySem.W.findIn K (.ref C1) "__init__" = some (some (.ref f13)))
    (l13 : K.lookup f13 = some ⟨oc13, od13, .func (PySem.W.fnOf "__init__" "Places.__init__" (defArgs s_Places_init) (defBody s_Places_init) (defScope s_Places_init) .none kV13 dc13 pm13 an13 cd13 ct13), sl13⟩)
    (c13 : PySem.W.codeIn K cd13 "Places.__init__" = true)
    (k13 : PySem.W.keepIn K (.ref f13) = true)
    (i13 : PySem.W.isFn K (.ref f13) = true)
    (a14 : PySem.W.findIn K (.ref C1) "add" = some (some (.ref f14)))
    (l14 : K.lookup f14 = some ⟨oc14, od14, .func (PySem.W.fnOf "add" "Places.add" (defArgs s_Places_add) (defBody s_Places_add) (defScope s_Places_add) .none kV14 dc14 pm14 an14 cd14 ct14), sl14⟩)
    (c14 : PySem.W.codeIn K cd14 "Places.add" = true)
    (k14 : PySem.W.keepIn K (.ref f14) = true)
    (i14 : PySem.W.isFn K (.ref f14) = true)
    (a15 : PySem.W.findIn K (.ref C1) "link" = some (some (.ref f15)))
    (l15 : K.lookup f15 = some ⟨oc15, od15, .func (PySem.W.fnOf "link" "Places.link" (defArgs s_Places_link) (defBody s_Places_link) (defScope s_Places_link) .none kV15 dc15 pm15 an15 cd15 ct15), sl15⟩)
    (c15 : PySem.W.codeIn K cd15 "Places.link" = true)
    (k15 : PySem.W.keepIn K (.ref f15) = true)
    (i15 : PySem.W.isFn K (.ref f15) = true)
    (a16 : PySem.W.findIn K (.ref C1) "lay" = some (some (.ref f16)))
    (l16 : K.lookup f16 = some ⟨oc16, od16, .func (PySem.W.fnOf "lay" "Places.lay" (defArgs s_Places_lay) (defBody s_Places_lay) (defScope s_Places_lay) .none kV16 dc16 pm16 an16 cd16 ct16), sl16⟩)
    (c16 : PySem.W.codeIn K cd16 "Places.lay" = true)
    (k16 : PySem.W.keepIn K (.ref f16) = true)
    (i16 : PySem.W.isFn K (.ref f16) = true)
    (a17 : PySem.W.findIn K (.ref C1) "chained" = some (some (.ref f17)))
    (l17 : K.lookup f17 = some ⟨oc17, od17, .func (PySem.W.fnOf "chained" "Places.chained" (defArgs s_Places_chained) (defBody s_Places_chained) (defScope s_Places_chained) .none kV17 dc17 pm17 an17 cd17 ct17), sl17⟩)
    (c17 : PySem.W.codeIn K cd17 "Places.chained" = true)
    (k17 : PySem.W.keepIn K (.ref f17) = true)
    (i17 : PySem.W.isFn K (.ref f17) = true)
    (a18 : PySem.W.findIn K (.ref C2) "__init__" = some (some (.ref f18)))
    (l18 : K.lookup f18 = some ⟨oc18, od18, .func (PySem.W.fnOf "__init__" "Pattern.__init__" (defArgs s_Pattern_init) (defBody s_Pattern_init) (defScope s_Pattern_init) .none kV18 dc18 pm18 an18 cd18 ct18), sl18⟩)
    (c18 : PySem.W.codeIn K cd18 "Pattern.__init__" = true)
    (k18 : PySem.W.keepIn K (.ref f18) = true)
    (i18 : PySem.W.isFn K (.ref f18) = true)
    (a19 : PySem.W.findIn K (.ref C2) "__len__" = some (some (.ref f19)))
    (l19 : K.lookup f19 = some ⟨oc19, od19, .func (PySem.W.fnOf "__len__" "Pattern.__len__" (defArgs s_Pattern_len) (defBody s_Pattern_len) (defScope s_Pattern_len) .none kV19 dc19 pm19 an19 cd19 ct19), sl19⟩)
    (c19 : PySem.W.codeIn K cd19 "Pattern.__len__" = true)
    (k19 : PySem.W.keepIn K (.ref f19) = true)
    (i19 : PySem.W.isFn K (.ref f19) = true)
    (a20 : PySem.W.findIn K (.ref C2) "__str__" = some (some (.ref f20)))
    (l20 : K.lookup f20 = some ⟨oc20, od20, .func (PySem.W.fnOf "__str__" "Pattern.__str__" (defArgs s_Pattern_str) (defBody s_Pattern_str) (defScope s_Pattern_str) .none kV20 dc20 pm20 an20 cd20 ct20), sl20⟩)
    (c20 : PySem.W.codeIn K cd20 "Pattern.__str__" = true)
    (k20 : PySem.W.keepIn K (.ref f20) = true)
    (i20 : PySem.W.isFn K (.ref f20) = true)
    (a21 : PySem.W.findIn K (.ref C2) "__eq__" = some (some (.ref f21)))
    (l21 : K.lookup f21 = some ⟨oc21, od21, .func (PySem.W.fnOf "__eq__" "Pattern.__eq__" (defArgs s_Pattern_eq) (defBody s_Pattern_eq) (defScope s_Pattern_eq) .none kV21 dc21 pm21 an21 cd21 ct21), sl21⟩)
    (c21 : PySem.W.codeIn K cd21 "Pattern.__eq__" = true)
    (k21 : PySem.W.keepIn K (.ref f21) = true)
    (i21 : PySem.W.isFn K (.ref f21) = true)
    (a22 : PySem.W.nsIn K mainGlobals "_law_bag" = some (some (.ref f22)))
    (l22 : K.lookup f22 = some ⟨oc22, od22, .func (PySem.W.fnOf "_law_bag" "_law_bag" (defArgs s_l_bag) (defBody s_l_bag) (defScope s_l_bag) .none kV22 dc22 pm22 an22 cd22 ct22), sl22⟩)
    (c22 : PySem.W.codeIn K cd22 "_law_bag" = true)
    (k22 : PySem.W.keepIn K (.ref f22) = true)
    (a23 : PySem.W.nsIn K mainGlobals "_law_take" = some (some (.ref f23)))
    (l23 : K.lookup f23 = some ⟨oc23, od23, .func (PySem.W.fnOf "_law_take" "_law_take" (defArgs s_l_take) (defBody s_l_take) (defScope s_l_take) .none kV23 dc23 pm23 an23 cd23 ct23), sl23⟩)
    (c23 : PySem.W.codeIn K cd23 "_law_take" = true)
    (k23 : PySem.W.keepIn K (.ref f23) = true)
    (a24 : PySem.W.nsIn K mainGlobals "_law_of" = some (some (.ref f24)))
    (l24 : K.lookup f24 = some ⟨oc24, od24, .func (PySem.W.fnOf "_law_of" "_law_of" (defArgs s_l_of) (defBody s_l_of) (defScope s_l_of) .none kV24 dc24 pm24 an24 cd24 ct24), sl24⟩)
    (c24 : PySem.W.codeIn K cd24 "_law_of" = true)
    (k24 : PySem.W.keepIn K (.ref f24) = true)
    (a25 : PySem.W.nsIn K mainGlobals "_law_letters" = some (some (.ref f25)))
    (l25 : K.lookup f25 = some ⟨oc25, od25, .func (PySem.W.fnOf "_law_letters" "_law_letters" (defArgs s_l_letters) (defBody s_l_letters) (defScope s_l_letters) .none kV25 dc25 pm25 an25 cd25 ct25), sl25⟩)
    (c25 : PySem.W.codeIn K cd25 "_law_letters" = true)
    (k25 : PySem.W.keepIn K (.ref f25) = true)
    (a26 : PySem.W.nsIn K mainGlobals "_law_item" = some (some (.ref f26)))
    (l26 : K.lookup f26 = some ⟨oc26, od26, .func (PySem.W.fnOf "_law_item" "_law_item" (defArgs s_l_item) (defBody s_l_item) (defScope s_l_item) .none kV26 dc26 pm26 an26 cd26 ct26), sl26⟩)
    (c26 : PySem.W.codeIn K cd26 "_law_item" = true)
    (k26 : PySem.W.keepIn K (.ref f26) = true)
    (a27 : PySem.W.nsIn K mainGlobals "_law_branches" = some (some (.ref f27)))
    (l27 : K.lookup f27 = some ⟨oc27, od27, .func (PySem.W.fnOf "_law_branches" "_law_branches" (defArgs s_l_branches) (defBody s_l_branches) (defScope s_l_branches) .none kV27 dc27 pm27 an27 cd27 ct27), sl27⟩)
    (c27 : PySem.W.codeIn K cd27 "_law_branches" = true)
    (k27 : PySem.W.keepIn K (.ref f27) = true)
    (a28 : PySem.W.nsIn K mainGlobals "_law_pieces" = some (some (.ref f28)))
    (l28 : K.lookup f28 = some ⟨oc28, od28, .func (PySem.W.fnOf "_law_pieces" "_law_pieces" (defArgs s_l_pieces) (defBody s_l_pieces) (defScope s_l_pieces) .none kV28 dc28 pm28 an28 cd28 ct28), sl28⟩)
    (c28 : PySem.W.codeIn K cd28 "_law_pieces" = true)
    (k28 : PySem.W.keepIn K (.ref f28) = true)
    (a29 : PySem.W.nsIn K mainGlobals "_law_written" = some (some (.ref f29)))
    (l29 : K.lookup f29 = some ⟨oc29, od29, .func (PySem.W.fnOf "_law_written" "_law_written" (defArgs s_l_written) (defBody s_l_written) (defScope s_l_written) .none kV29 dc29 pm29 an29 cd29 ct29), sl29⟩)
    (c29 : PySem.W.codeIn K cd29 "_law_written" = true)
    (k29 : PySem.W.keepIn K (.ref f29) = true)
    (a30 : PySem.W.nsIn K mainGlobals "_law_spaced" = some (some (.ref f30)))
    (l30 : K.lookup f30 = some ⟨oc30, od30, .func (PySem.W.fnOf "_law_spaced" "_law_spaced" (defArgs s_l_spaced) (defBody s_l_spaced) (defScope s_l_spaced) .none kV30 dc30 pm30 an30 cd30 ct30), sl30⟩)
    (c30 : PySem.W.codeIn K cd30 "_law_spaced" = true)
    (k30 : PySem.W.keepIn K (.ref f30) = true)
    (a31 : PySem.W.nsIn K mainGlobals "_law_places" = some (some (.ref f31)))
    (l31 : K.lookup f31 = some ⟨oc31, od31, .func (PySem.W.fnOf "_law_places" "_law_places" (defArgs s_l_places) (defBody s_l_places) (defScope s_l_places) .none kV31 dc31 pm31 an31 cd31 ct31), sl31⟩)
    (c31 : PySem.W.codeIn K cd31 "_law_places" = true)
    (k31 : PySem.W.keepIn K (.ref f31) = true)
    (a32 : PySem.W.nsIn K mainGlobals "_law_right" = some (some (.ref f32)))
    (l32 : K.lookup f32 = some ⟨oc32, od32, .func (PySem.W.fnOf "_law_right" "_law_right" (defArgs s_l_right) (defBody s_l_right) (defScope s_l_right) .none kV32 dc32 pm32 an32 cd32 ct32), sl32⟩)
    (c32 : PySem.W.codeIn K cd32 "_law_right" = true)
    (k32 : PySem.W.keepIn K (.ref f32) = true)
    (a33 : PySem.W.nsIn K mainGlobals "_law_by_hand" = some (some (.ref f33)))
    (l33 : K.lookup f33 = some ⟨oc33, od33, .func (PySem.W.fnOf "_law_by_hand" "_law_by_hand" (defArgs s_l_by_hand) (defBody s_l_by_hand) (defScope s_l_by_hand) .none kV33 dc33 pm33 an33 cd33 ct33), sl33⟩)
    (c33 : PySem.W.codeIn K cd33 "_law_by_hand" = true)
    (k33 : PySem.W.keepIn K (.ref f33) = true)
    (a34 : PySem.W.nsIn K mainGlobals "law" = some (some (.ref f34)))
    (l34 : K.lookup f34 = some ⟨oc34, od34, .func (PySem.W.fnOf "law" "law" (defArgs s_law) (defBody s_law) (defScope s_law) .none kV34 dc34 pm34 an34 cd34 ct34), sl34⟩)
    (c34 : PySem.W.codeIn K cd34 "law" = true)
    (k34 : PySem.W.keepIn K (.ref f34) = true)
    (pg0 : PySem.W.plainGet K C0 Str.empty = true)
    (hd0 : PySem.W.hasDictIn K C0 = true)
    (po0 : PySem.W.plainOver K C0 = true)
    (sa0 : PySem.W.findIn K (.ref C0) "__setattr__" = some (some (.builtin "object.__setattr__")))
    (mk0 : PySem.W.makesIn K C0 = true)
    (kc0 : PySem.W.keepIn K (.ref C0) = true)
    (ha0 : PySem.W.findIn K (.ref C0) "__class__" = some (some (.builtin "object.__class__")))
    (hm0 : PySem.W.mroIn K C0 (.type "object") = some true)
    (n0_pieces : PySem.W.findIn K (.ref C0) "pieces" = some none)
    (n0_at : PySem.W.findIn K (.ref C0) "at" = some none)
    (pg1 : PySem.W.plainGet K C1 Str.empty = true)
    (hd1 : PySem.W.hasDictIn K C1 = true)
    (po1 : PySem.W.plainOver K C1 = true)
    (sa1 : PySem.W.findIn K (.ref C1) "__setattr__" = some (some (.builtin "object.__setattr__")))
    (mk1 : PySem.W.makesIn K C1 = true)
    (kc1 : PySem.W.keepIn K (.ref C1) = true)
    (ha1 : PySem.W.findIn K (.ref C1) "__class__" = some (some (.builtin "object.__class__")))
    (hm1 : PySem.W.mroIn K C1 (.type "object") = some true)
    (n1_letters : PySem.W.findIn K (.ref C1) "letters" = some none)
    (n1_follow : PySem.W.findIn K (.ref C1) "follow" = some none)
    (pg2 : PySem.W.plainGet K C2 Str.empty = true)
    (hd2 : PySem.W.hasDictIn K C2 = true)
    (po2 : PySem.W.plainOver K C2 = true)
    (sa2 : PySem.W.findIn K (.ref C2) "__setattr__" = some (some (.builtin "object.__setattr__")))
    (mk2 : PySem.W.makesIn K C2 = true)
    (kc2 : PySem.W.keepIn K (.ref C2) = true)
    (ha2 : PySem.W.findIn K (.ref C2) "__class__" = some (some (.builtin "object.__class__")))
    (hm2 : PySem.W.mroIn K C2 (.type "object") = some true)
    (n2_pieces : PySem.W.findIn K (.ref C2) "pieces" = some none)
    (n2_tree : PySem.W.findIn K (.ref C2) "tree" = some none)
    (n2_places : PySem.W.findIn K (.ref C2) "places" = some none)
    (n2_is_empty : PySem.W.findIn K (.ref C2) "is_empty" = some none)
    (n2_last : PySem.W.findIn K (.ref C2) "last" = some none)
    (n2_written : PySem.W.findIn K (.ref C2) "written" = some none)
    (hn : PySem.W.specialIn K (.builtin "object.__class__") "__get__" = some (some (.builtin "getset_descriptor.__get__")))
    (htk : PySem.W.takesIn K (.builtin "object.__class__") = some true)
    (z_abs : PySem.W.nsIn K mainGlobals "abs" = some none)
    (z_all : PySem.W.nsIn K mainGlobals "all" = some none)
    (z_any : PySem.W.nsIn K mainGlobals "any" = some none)
    (z_int : PySem.W.nsIn K mainGlobals "int" = some none)
    (z_isinstance : PySem.W.nsIn K mainGlobals "isinstance" = some none)
    (z_len : PySem.W.nsIn K mainGlobals "len" = some none)
    (z_list : PySem.W.nsIn K mainGlobals "list" = some none)
    (z_max : PySem.W.nsIn K mainGlobals "max" = some none)
    (z_min : PySem.W.nsIn K mainGlobals "min" = some none)
    (z_range : PySem.W.nsIn K mainGlobals "range" = some none)
    (z_set : PySem.W.nsIn K mainGlobals "set" = some none)
    (z_sorted : PySem.W.nsIn K mainGlobals "sorted" = some none)
    (z_str : PySem.W.nsIn K mainGlobals "str" = some none)
    (g_LETTERS : ∃ t, mg "LETTERS" = some (.str (mkS [97, 98, 99, 100, 101, 102, 103, 104, 105, 106, 107, 108, 109, 110, 111, 112, 113, 114, 115, 116, 117, 118, 119, 120, 121, 122, 65, 66, 67, 68, 69, 70, 71, 72, 73, 74, 75, 76, 77, 78, 79, 80, 81, 82, 83, 84, 85, 86, 87, 88, 89, 90, 48, 49, 50, 51, 52, 53, 54, 55, 56, 57, 33, 35, 36, 38, 39, 40, 41, 42, 43, 44, 45, 46, 47, 58, 59, 60, 61, 62, 63, 64, 94, 95, 123, 124, 125, 126]) t))
    (g_MOST_BRACKETED : PySem.W.nsIn K mainGlobals "MOST_BRACKETED" = some (some (.int 8 t_MOST_BRACKETED)))
    (g_MOST_DEPTH : PySem.W.nsIn K mainGlobals "MOST_DEPTH" = some (some (.int 4 t_MOST_DEPTH)))
    (g_MOST_PLACES : PySem.W.nsIn K mainGlobals "MOST_PLACES" = some (some (.int 10 t_MOST_PLACES)))
    (g_MOST_QUOTED : PySem.W.nsIn K mainGlobals "MOST_QUOTED" = some (some (.int 6 t_MOST_QUOTED)))
    (g_REPEATS : PySem.W.nsIn K mainGlobals "REPEATS" = some (some (.ref r_REPEATS)))
    (l_REPEATS : K.lookup r_REPEATS = some ⟨.type "tuple", od_REPEATS, .seq #[.str "*" t_REPEATS_0, .str "+" t_REPEATS_1, .str "?" t_REPEATS_2] n_REPEATS, sl_REPEATS⟩)
    (g_SIGNS : PySem.W.nsIn K mainGlobals "SIGNS" = some (some (.str "()|*+?" t_SIGNS)))
    (bg7 : PySem.W.specialIn K (.ref f7) "__get__" = some (some (.builtin "function.__get__")))
    (bt7 : PySem.W.takesIn K (.ref f7) = some false)
    (bf7 : PySem.W.fnIn K f7 = true)
    (en2 : PySem.W.findIn K (.ref C2) "__ne__" = some (some (.builtin "object.__ne__")))
    (ef2_NoneType : PySem.W.notFirst K C2 (.type "NoneType") = true)
    (ef2_bool : PySem.W.notFirst K C2 (.type "bool") = true)
    (ef2_int : PySem.W.notFirst K C2 (.type "int") = true)
    (ef2_str : PySem.W.notFirst K C2 (.type "str") = true)
    (ef2_tuple : PySem.W.notFirst K C2 (.type "tuple") = true)
    (ef2_list : PySem.W.notFirst K C2 (.type "list") = true)
    (ef2_dict : PySem.W.notFirst K C2 (.type "dict") = true)
    (eo2_0 : PySem.W.notFirst K C2 (.ref C0) = true)
    (eo2_1 : PySem.W.notFirst K C2 (.ref C1) = true)
    (eo2_2 : PySem.W.notFirst K C2 (.ref C2) = true)
    (ic_Pattern : PySem.W.isClsIn K C2 = true)
    (ity_Pattern : PySem.W.typeIn K (.ref C2) = some (.type "type"))
    (is_Pattern_1 : PySem.W.notFirst K C2 (.type "str") = true)
    (is_Pattern_2 : PySem.W.notFirst K C2 (.type "NoneType") = true)
    (is_Pattern_3 : PySem.W.notFirst K C2 (.type "int") = true)
    (is_Pattern_4 : PySem.W.notFirst K C2 (.type "list") = true)
    (is_Pattern_5 : PySem.W.notFirst K C2 (.type "tuple") = true)
    (is_Pattern_6 : PySem.W.notFirst K C2 (.type "bool") = true) :
    ∃ (p : Par) (g : Fn) (fd : FuncData), p.K = K ∧ (∀ (s : Shared) (u : Value), BindsTo s fd ⟨[u], []⟩ [("_law_script", u)]) ∧ (∀ ns : List Int, ns.length ≤ 63 → (∀ z ∈ ns, Builtin.Int.intBits z ≤ 1048576) → ∃ μ', g [.ro ns] [] = some (.ok (.bl true) μ')) ∧
      ∀ base : Heap, K.In base → base.Ns mainGlobals mg → FnOk l.prog w p.K mg base (L2.CX l.prog w) 180 fa fd ["_law_script"] (spA p g) := by
  have e : f34 = fa := by
    have e := hfa.symm.trans (PySem.W.mg_of X G a34)
    cases e
    rfl
  subst e
  have cl0 : Cls K C0 := ⟨pg0, hd0, po0, sa0⟩
  have cl1 : Cls K C1 := ⟨pg1, hd1, po1, sa1⟩
  have cl2 : Cls K C2 := ⟨pg2, hd2, po2, sa2⟩
  let p : Par := ⟨K, fun c => match c with | 0 => C0 | 1 => C1 | 2 => C2 | _ => C0, cnOf⟩
  let A : Ads := ⟨f0, f1, f2, f3, f4, f5, f6, f7, f8, f9, f10, f11, f12, f13, f14, f15, f16, f17, f18, f19, f20, f21, f22, f23, f24, f25, f26, f27, f28, f29, f30, f31, f32, f33, f34⟩
  have F0 := fun_mk (st := s_is_letters) l0 c0 k0
  have u0 : DefOk p.K "is_letters" "is_letters" s_is_letters f0 ["text"] := ⟨_, F0, F0.binds (ps := ["text"]) fun _ _ _ _ _ _ us hl => match us, hl with | [_], _ => rfl⟩
  have F1 := fun_mk (st := s_is_quoted) l1 c1 k1
  have u1 : DefOk p.K "is_quoted" "is_quoted" s_is_quoted f1 ["inner"] := ⟨_, F1, F1.binds (ps := ["inner"]) fun _ _ _ _ _ _ us hl => match us, hl with | [_], _ => rfl⟩
  have F2 := fun_mk (st := s_is_bracketed) l2 c2 k2
  have u2 : DefOk p.K "is_bracketed" "is_bracketed" s_is_bracketed f2 ["inner"] := ⟨_, F2, F2.binds (ps := ["inner"]) fun _ _ _ _ _ _ us hl => match us, hl with | [_], _ => rfl⟩
  have F3 := fun_mk (st := s_piece_at) l3 c3 k3
  have u3 : DefOk p.K "piece_at" "piece_at" s_piece_at f3 ["text", "at"] := ⟨_, F3, F3.binds (ps := ["text", "at"]) fun _ _ _ _ _ _ us hl => match us, hl with | [_, _], _ => rfl⟩
  have F4 := fun_mk (st := s_pieces_of) l4 c4 k4
  have u4 : DefOk p.K "pieces_of" "pieces_of" s_pieces_of f4 ["text"] := ⟨_, F4, F4.binds (ps := ["text"]) fun _ _ _ _ _ _ us hl => match us, hl with | [_], _ => rfl⟩
  have F5 := fun_mk (st := s_shown) l5 c5 k5
  have u5 : DefOk p.K "shown" "shown" s_shown f5 ["pieces"] := ⟨_, F5, F5.binds (ps := ["pieces"]) fun _ _ _ _ _ _ us hl => match us, hl with | [_], _ => rfl⟩
  have F6 := fun_mk (st := s_Reader_init) l6 c6 k6
  have u6 : DefOk p.K "__init__" "Reader.__init__" s_Reader_init f6 ["self", "pieces"] := ⟨_, F6, F6.binds (ps := ["self", "pieces"]) fun _ _ _ _ _ _ us hl => match us, hl with | [_, _], _ => rfl⟩
  have u7 : StarOk p.K "is_here" "Reader.is_here" s_Reader_is_here f7 ["self"] "signs" := ⟨_, _, _, _, _, _, _, _, _, l7, c7, StX.bind_star1 (B := fun us => bindArgs (PySem.W.fnOf "is_here" "Reader.is_here" (defArgs s_Reader_is_here) (defBody s_Reader_is_here) (defScope s_Reader_is_here) .none kV7 dc7 pm7 an7 cd7 ct7) ⟨us, []⟩) (p1 := "self") (pv := "signs") (fun _ => rfl) (fun _ _ _ => rfl)⟩
  have F8 := fun_mk (st := s_Reader_begins_item) l8 c8 k8
  have u8 : DefOk p.K "begins_item" "Reader.begins_item" s_Reader_begins_item f8 ["self"] := ⟨_, F8, F8.binds (ps := ["self"]) fun _ _ _ _ _ _ us hl => match us, hl with | [_], _ => rfl⟩
  have F9 := fun_mk (st := s_Reader_branches) l9 c9 k9
  have u9 : DefOk p.K "branches" "Reader.branches" s_Reader_branches f9 ["self", "depth"] := ⟨_, F9, F9.binds (ps := ["self", "depth"]) fun _ _ _ _ _ _ us hl => match us, hl with | [_, _], _ => rfl⟩
  have F10 := fun_mk (st := s_Reader_branch) l10 c10 k10
  have u10 : DefOk p.K "branch" "Reader.branch" s_Reader_branch f10 ["self", "depth"] := ⟨_, F10, F10.binds (ps := ["self", "depth"]) fun _ _ _ _ _ _ us hl => match us, hl with | [_, _], _ => rfl⟩
  have F11 := fun_mk (st := s_Reader_item) l11 c11 k11
  have u11 : DefOk p.K "item" "Reader.item" s_Reader_item f11 ["self", "depth"] := ⟨_, F11, F11.binds (ps := ["self", "depth"]) fun _ _ _ _ _ _ us hl => match us, hl with | [_, _], _ => rfl⟩
  have F12 := fun_mk (st := s_Reader_whole) l12 c12 k12
  have u12 : DefOk p.K "whole" "Reader.whole" s_Reader_whole f12 ["self"] := ⟨_, F12, F12.binds (ps := ["self"]) fun _ _ _ _ _ _ us hl => match us, hl with | [_], _ => rfl⟩
  have F13 := fun_mk (st := s_Places_init) l13 c13 k13
  have u13 : DefOk p.K "__init__" "Places.__init__" s_Places_init f13 ["self"] := ⟨_, F13, F13.binds (ps := ["self"]) fun _ _ _ _ _ _ us hl => match us, hl with | [_], _ => rfl⟩
  have F14 := fun_mk (st := s_Places_add) l14 c14 k14
  have u14 : DefOk p.K "add" "Places.add" s_Places_add f14 ["self", "letters"] := ⟨_, F14, F14.binds (ps := ["self", "letters"]) fun _ _ _ _ _ _ us hl => match us, hl with | [_, _], _ => rfl⟩
  have F15 := fun_mk (st := s_Places_link) l15 c15 k15
  have u15 : DefOk p.K "link" "Places.link" s_Places_link f15 ["self", "before", "behind"] := ⟨_, F15, F15.binds (ps := ["self", "before", "behind"]) fun _ _ _ _ _ _ us hl => match us, hl with | [_, _, _], _ => rfl⟩
  have F16 := fun_mk (st := s_Places_lay) l16 c16 k16
  have u16 : DefOk p.K "lay" "Places.lay" s_Places_lay f16 ["self", "tree"] := ⟨_, F16, F16.binds (ps := ["self", "tree"]) fun _ _ _ _ _ _ us hl => match us, hl with | [_, _], _ => rfl⟩
  have F17 := fun_mk (st := s_Places_chained) l17 c17 k17
  have u17 : DefOk p.K "chained" "Places.chained" s_Places_chained f17 ["self", "laid"] := ⟨_, F17, F17.binds (ps := ["self", "laid"]) fun _ _ _ _ _ _ us hl => match us, hl with | [_, _], _ => rfl⟩
  have F18 := fun_mk (st := s_Pattern_init) l18 c18 k18
  have u18 : DefOk p.K "__init__" "Pattern.__init__" s_Pattern_init f18 ["self", "text"] := ⟨_, F18, F18.binds (ps := ["self", "text"]) fun _ _ _ _ _ _ us hl => match us, hl with | [_, _], _ => rfl⟩
  have F19 := fun_mk (st := s_Pattern_len) l19 c19 k19
  have u19 : DefOk p.K "__len__" "Pattern.__len__" s_Pattern_len f19 ["self"] := ⟨_, F19, F19.binds (ps := ["self"]) fun _ _ _ _ _ _ us hl => match us, hl with | [_], _ => rfl⟩
  have F20 := fun_mk (st := s_Pattern_str) l20 c20 k20
  have u20 : DefOk p.K "__str__" "Pattern.__str__" s_Pattern_str f20 ["self"] := ⟨_, F20, F20.binds (ps := ["self"]) fun _ _ _ _ _ _ us hl => match us, hl with | [_], _ => rfl⟩
  have F21 := fun_mk (st := s_Pattern_eq) l21 c21 k21
  have u21 : DefOk p.K "__eq__" "Pattern.__eq__" s_Pattern_eq f21 ["self", "other"] := ⟨_, F21, F21.binds (ps := ["self", "other"]) fun _ _ _ _ _ _ us hl => match us, hl with | [_, _], _ => rfl⟩
  have F22 := fun_mk (st := s_l_bag) l22 c22 k22
  have u22 : DefOk p.K "_law_bag" "_law_bag" s_l_bag f22 ["_law_script", "_law_at"] := ⟨_, F22, F22.binds (ps := ["_law_script", "_law_at"]) fun _ _ _ _ _ _ us hl => match us, hl with | [_, _], _ => rfl⟩
  have F23 := fun_mk (st := s_l_take) l23 c23 k23
  have u23 : DefOk p.K "_law_take" "_law_take" s_l_take f23 ["_law_bag_here", "_law_many"] := ⟨_, F23, F23.binds (ps := ["_law_bag_here", "_law_many"]) fun _ _ _ _ _ _ us hl => match us, hl with | [_, _], _ => rfl⟩
  have F24 := fun_mk (st := s_l_of) l24 c24 k24
  have u24 : DefOk p.K "_law_of" "_law_of" s_l_of f24 ["_law_bag_here", "_law_some"] := ⟨_, F24, F24.binds (ps := ["_law_bag_here", "_law_some"]) fun _ _ _ _ _ _ us hl => match us, hl with | [_, _], _ => rfl⟩
  have F25 := fun_mk (st := s_l_letters) l25 c25 k25
  have u25 : DefOk p.K "_law_letters" "_law_letters" s_l_letters f25 ["_law_bag_here", "_law_many"] := ⟨_, F25, F25.binds (ps := ["_law_bag_here", "_law_many"]) fun _ _ _ _ _ _ us hl => match us, hl with | [_, _], _ => rfl⟩
  have F26 := fun_mk (st := s_l_item) l26 c26 k26
  have u26 : DefOk p.K "_law_item" "_law_item" s_l_item f26 ["_law_bag_here", "_law_letters_here", "_law_deep", "_law_left"] := ⟨_, F26, F26.binds (ps := ["_law_bag_here", "_law_letters_here", "_law_deep", "_law_left"]) fun _ _ _ _ _ _ us hl => match us, hl with | [_, _, _, _], _ => rfl⟩
  have F27 := fun_mk (st := s_l_branches) l27 c27 k27
  have u27 : DefOk p.K "_law_branches" "_law_branches" s_l_branches f27 ["_law_bag_here", "_law_letters_here", "_law_deep", "_law_left"] := ⟨_, F27, F27.binds (ps := ["_law_bag_here", "_law_letters_here", "_law_deep", "_law_left"]) fun _ _ _ _ _ _ us hl => match us, hl with | [_, _, _, _], _ => rfl⟩
  have F28 := fun_mk (st := s_l_pieces) l28 c28 k28
  have u28 : DefOk p.K "_law_pieces" "_law_pieces" s_l_pieces f28 ["_law_branches_here"] := ⟨_, F28, F28.binds (ps := ["_law_branches_here"]) fun _ _ _ _ _ _ us hl => match us, hl with | [_], _ => rfl⟩
  have F29 := fun_mk (st := s_l_written) l29 c29 k29
  have u29 : DefOk p.K "_law_written" "_law_written" s_l_written f29 ["_law_branches_here"] := ⟨_, F29, F29.binds (ps := ["_law_branches_here"]) fun _ _ _ _ _ _ us hl => match us, hl with | [_], _ => rfl⟩
  have F30 := fun_mk (st := s_l_spaced) l30 c30 k30
  have u30 : DefOk p.K "_law_spaced" "_law_spaced" s_l_spaced f30 ["_law_bag_here", "_law_pieces_here"] := ⟨_, F30, F30.binds (ps := ["_law_bag_here", "_law_pieces_here"]) fun _ _ _ _ _ _ us hl => match us, hl with | [_, _], _ => rfl⟩
  have F31 := fun_mk (st := s_l_places) l31 c31 k31
  have u31 : DefOk p.K "_law_places" "_law_places" s_l_places f31 ["_law_branches_here"] := ⟨_, F31, F31.binds (ps := ["_law_branches_here"]) fun _ _ _ _ _ _ us hl => match us, hl with | [_], _ => rfl⟩
  have F32 := fun_mk (st := s_l_right) l32 c32 k32
  have u32 : DefOk p.K "_law_right" "_law_right" s_l_right f32 ["_law_bag_here"] := ⟨_, F32, F32.binds (ps := ["_law_bag_here"]) fun _ _ _ _ _ _ us hl => match us, hl with | [_], _ => rfl⟩
  have F33 := fun_mk (st := s_l_by_hand) l33 c33 k33
  have u33 : DefOk p.K "_law_by_hand" "_law_by_hand" s_l_by_hand f33 [] := ⟨_, F33, F33.binds (ps := []) fun _ _ _ _ _ _ us hl => match us, hl with | [], _ => rfl⟩
  have F34 := fun_mk (st := s_law) l34 c34 k34
  have u34 : DefOk p.K "law" "law" s_law f34 ["_law_script"] := ⟨_, F34, F34.binds (ps := ["_law_script"]) fun _ _ _ _ _ _ us hl => match us, hl with | [_], _ => rfl⟩
  have U : Dfs p A := ⟨u0, u1, u2, u3, u4, u5, u6, u7, u8, u9, u10, u11, u12, u13, u14, u15, u16, u17, u18, u19, u20, u21, u22, u23, u24, u25, u26, u27, u28, u29, u30, u31, u32, u33, u34⟩
  have it0 : InsTy p 0 := ⟨cl0, ha0, hn, htk, hm0⟩
  have it1 : InsTy p 1 := ⟨cl1, ha1, hn, htk, hm1⟩
  have it2 : InsTy p 2 := ⟨cl2, ha2, hn, htk, hm2⟩
  have isi : ∀ c ∈ clsIds, InsTy p c := by
    intro c hc
    simp only [clsIds, List.mem_cons, List.not_mem_nil, or_false] at hc
    rcases hc with rfl | rfl | rfl
    · exact it0
    · exact it1
    · exact it2
  have q2 : EqOk p clsIds 2 f21 := by
    refine ⟨⟨a21, i21⟩, fun t ht => ?_, en2, hm2, isi⟩
    cases t with
    | bt b =>
      simp only [tyIn, List.mem_cons, List.not_mem_nil, or_false] at ht
      rcases ht with rfl | rfl | rfl | rfl | rfl | rfl | rfl
      · exact ef2_NoneType
      · exact ef2_bool
      · exact ef2_int
      · exact ef2_str
      · exact ef2_tuple
      · exact ef2_list
      · exact ef2_dict
    | own c =>
      simp only [tyIn, clsIds, List.mem_cons, List.not_mem_nil, or_false] at ht
      rcases ht with rfl | rfl | rfl
      · exact eo2_0
      · exact eo2_1
      · exact eo2_2
  have is_Pattern : TbOk p (.ref C2) isi_Pattern := (tbOk_own kit_self (tbOk_bt (kit_nf ic_Pattern ity_Pattern is_Pattern_1 rfl) (tbOk_bt (kit_nf ic_Pattern ity_Pattern is_Pattern_2 rfl) (tbOk_bt (kit_nf ic_Pattern ity_Pattern is_Pattern_3 rfl) (tbOk_bt (kit_nf ic_Pattern ity_Pattern is_Pattern_4 rfl) (tbOk_bt (kit_nf ic_Pattern ity_Pattern is_Pattern_5 rfl) (tbOk_bt (kit_nf ic_Pattern ity_Pattern is_Pattern_6 rfl) tbOk_nil)))))))
  have is_str : TbOk p (.type "str") isi_str := (tbOk_bt (kit_ty (by decide +kernel)) (tbOk_bt (kit_ty (by decide +kernel)) (tbOk_bt (kit_ty (by decide +kernel)) (tbOk_bt (kit_ty (by decide +kernel)) (tbOk_bt (kit_ty (by decide +kernel)) (tbOk_bt (kit_ty (by decide +kernel)) tbOk_nil))))))
  have T : Txt p mg A := ⟨PySem.W.mg_none_of X G z_abs,
    PySem.W.mg_none_of X G z_all,
    PySem.W.mg_none_of X G z_any,
    PySem.W.mg_none_of X G z_int,
    PySem.W.mg_none_of X G z_isinstance,
    PySem.W.mg_none_of X G z_len,
    PySem.W.mg_none_of X G z_list,
    PySem.W.mg_none_of X G z_max,
    PySem.W.mg_none_of X G z_min,
    PySem.W.mg_none_of X G z_range,
    PySem.W.mg_none_of X G z_set,
    PySem.W.mg_none_of X G z_sorted,
    PySem.W.mg_none_of X G z_str,
    g_LETTERS,
    ⟨_, PySem.W.mg_of X G g_MOST_BRACKETED⟩,
    ⟨_, PySem.W.mg_of X G g_MOST_DEPTH⟩,
    ⟨_, PySem.W.mg_of X G g_MOST_PLACES⟩,
    ⟨_, PySem.W.mg_of X G g_MOST_QUOTED⟩,
    ⟨_, _, _, _, PySem.W.mg_of X G g_REPEATS, l_REPEATS, rfl, rfl, (by show 3 ≤ 1000000; decide), (.cons ⟨_, rfl⟩ (.cons ⟨_, rfl⟩ (.cons ⟨_, rfl⟩ .nil)))⟩,
    ⟨_, PySem.W.mg_of X G g_SIGNS⟩,
    ⟨cl2, n2_is_empty, rfl, (show (cnOf 2).Nodup by decide +kernel), (show (cnOf 2).length ≤ 900 by decide)⟩,
    ⟨cl2, n2_last, rfl, (show (cnOf 2).Nodup by decide +kernel), (show (cnOf 2).length ≤ 900 by decide)⟩,
    ⟨cl2, n2_pieces, rfl, (show (cnOf 2).Nodup by decide +kernel), (show (cnOf 2).length ≤ 900 by decide)⟩,
    ⟨cl2, n2_places, rfl, (show (cnOf 2).Nodup by decide +kernel), (show (cnOf 2).length ≤ 900 by decide)⟩,
    ⟨cl2, n2_tree, rfl, (show (cnOf 2).Nodup by decide +kernel), (show (cnOf 2).length ≤ 900 by decide)⟩,
    ⟨cl2, n2_written, rfl, (show (cnOf 2).Nodup by decide +kernel), (show (cnOf 2).length ≤ 900 by decide)⟩,
    ⟨cl1, n1_follow, rfl, (show (cnOf 1).Nodup by decide +kernel), (show (cnOf 1).length ≤ 900 by decide)⟩,
    ⟨cl1, n1_letters, rfl, (show (cnOf 1).Nodup by decide +kernel), (show (cnOf 1).length ≤ 900 by decide)⟩,
    ⟨cl0, n0_at, rfl, (show (cnOf 0).Nodup by decide +kernel), (show (cnOf 0).length ≤ 900 by decide)⟩,
    ⟨cl0, n0_pieces, rfl, (show (cnOf 0).Nodup by decide +kernel), (show (cnOf 0).length ≤ 900 by decide)⟩,
    ⟨cl1, ⟨a14, i14, k14⟩, (show ("add" : Str) ∉ cnOf 1 by decide +kernel)⟩,
    ⟨cl1, ⟨a17, i17, k17⟩, (show ("chained" : Str) ∉ cnOf 1 by decide +kernel)⟩,
    ⟨cl1, ⟨a16, i16, k16⟩, (show ("lay" : Str) ∉ cnOf 1 by decide +kernel)⟩,
    ⟨cl1, ⟨a15, i15, k15⟩, (show ("link" : Str) ∉ cnOf 1 by decide +kernel)⟩,
    ⟨cl0, ⟨a8, i8, k8⟩, (show ("begins_item" : Str) ∉ cnOf 0 by decide +kernel)⟩,
    ⟨cl0, ⟨a10, i10, k10⟩, (show ("branch" : Str) ∉ cnOf 0 by decide +kernel)⟩,
    ⟨cl0, ⟨a9, i9, k9⟩, (show ("branches" : Str) ∉ cnOf 0 by decide +kernel)⟩,
    ⟨cl0, ⟨a7, i7, k7⟩, (show ("is_here" : Str) ∉ cnOf 0 by decide +kernel)⟩,
    ⟨cl0, ⟨a11, i11, k11⟩, (show ("item" : Str) ∉ cnOf 0 by decide +kernel)⟩,
    ⟨cl0, ⟨a12, i12, k12⟩, (show ("whole" : Str) ∉ cnOf 0 by decide +kernel)⟩,
    ⟨⟨a7, i7, k7⟩, bg7, bt7, (by decide +kernel), bf7⟩,
    PySem.W.mg_of X G aC2,
    PySem.W.mg_of X G aC1,
    PySem.W.mg_of X G aC0,
    ⟨mk2, a18, i18, kc2⟩,
    ⟨mk1, a13, i13, kc1⟩,
    ⟨mk0, a6, i6, kc0⟩,
    PySem.W.mg_of X G a22,
    k22,
    PySem.W.mg_of X G a27,
    k27,
    PySem.W.mg_of X G a33,
    k33,
    PySem.W.mg_of X G a26,
    k26,
    PySem.W.mg_of X G a25,
    k25,
    PySem.W.mg_of X G a24,
    k24,
    PySem.W.mg_of X G a28,
    k28,
    PySem.W.mg_of X G a31,
    k31,
    PySem.W.mg_of X G a32,
    k32,
    PySem.W.mg_of X G a30,
    k30,
    PySem.W.mg_of X G a23,
    k23,
    PySem.W.mg_of X G a29,
    k29,
    PySem.W.mg_of X G a2,
    k2,
    PySem.W.mg_of X G a0,
    k0,
    PySem.W.mg_of X G a1,
    k1,
    PySem.W.mg_of X G a3,
    k3,
    PySem.W.mg_of X G a4,
    k4,
    PySem.W.mg_of X G a5,
    k5,
    q2,
    ⟨a19, i19⟩,
    ⟨a20, i20⟩,
    isi,
    is_Pattern,
    is_str⟩
  refine ⟨p, F_law, PySem.W.fnOf "law" "law" (defArgs s_law) (defBody s_law) (defScope s_law) .none kV34 dc34 pm34 an34 cd34 ct34, rfl, fun s v => .of_eq rfl, plain, fun base _ _ => ?_⟩
  exact fn_okF (P := l.prog) (w := w) (base := base) F34 sc_law (ok_law (k0 := 176) (k := 176 + 3) (by omega) T ((A_l_bag U T).mono (by decide)) ((A_l_right U T).mono (by decide)) ((A_l_by_hand U T).mono (by decide)))
end
end K01

set_option maxRecDepth 100000
set_option maxHeartbeats 4000000

open PySem PySem.W PyProof.Rows in
set_option maxRecDepth 100000 in
set_option maxHeartbeats 0 in
theorem PySem.Challenge.cw_sidebytokens_k01_patterns_written_holds : PySem.Challenge.rw_sidebytokens_k01_patterns_written.Holds := by
  w_on; o_law; k_head; (case hw => w_witness2)
  k_fill
  refine Ab.walkX (l := PySem.Challenge.rw_sidebytokens_k01_patterns_written) (k := 180) (x := "_law_script") rfl rfl ⟨rfl, by decide, by decide⟩ (fun w h Y => PySem.W.kIn_of Y) ?F
  case F =>
    intro w mg fa h KX G hmg XP
    refine' K01.all_mk KX G hmg ?aC0 ?aC1 ?aC2 ?a0 ?l0 ?c0 ?k0 ?a1 ?l1 ?c1 ?k1 ?a2 ?l2 ?c2 ?k2 ?a3 ?l3 ?c3 ?k3 ?a4 ?l4 ?c4 ?k4 ?a5 ?l5 ?c5 ?k5 ?a6 ?l6 ?c6 ?k6 ?i6 ?a7 ?l7 ?c7 ?k7 ?i7 ?a8 ?l8 ?c8 ?k8 ?i8 ?a9 ?l9 ?c9 ?k9 ?i9 ?a10 ?l10 ?c10 ?k10 ?i10 ?a11 ?l11 ?c11 ?k11 ?i11 ?a12 ?l12 ?c12 ?k12 ?i12 ?a13 ?l13 ?c13 ?k13 ?i13 ?a14 ?l14 ?c14 ?k14 ?i14 ?a15 ?l15 ?c15 ?k15 ?i15 ?a16 ?l16 ?c16 ?k16 ?i16 ?a17 ?l17 ?c17 ?k17 ?i17 ?a18 ?l18 ?c18 ?k18 ?i18 ?a19 ?l19 ?c19 ?k19 ?i19 ?a20 ?l20 ?c20 ?k20 ?i20 ?a21 ?l21 ?c21 ?k21 ?i21 ?a22 ?l22 ?c22 ?k22 ?a23 ?l23 ?c23 ?k23 ?a24 ?l24 ?c24 ?k24 ?a25 ?l25 ?c25 ?k25 ?a26 ?l26 ?c26 ?k26 ?a27 ?l27 ?c27 ?k27 ?a28 ?l28 ?c28 ?k28 ?a29 ?l29 ?c29 ?k29 ?a30 ?l30 ?c30 ?k30 ?a31 ?l31 ?c31 ?k31 ?a32 ?l32 ?c32 ?k32 ?a33 ?l33 ?c33 ?k33 ?a34 ?l34 ?c34 ?k34 ?pg0 ?hd0 ?po0 ?sa0 ?mk0 ?kc0 ?ha0 ?hm0 ?n0_pieces ?n0_at ?pg1 ?hd1 ?po1 ?sa1 ?mk1 ?kc1 ?ha1 ?hm1 ?n1_letters ?n1_follow ?pg2 ?hd2 ?po2 ?sa2 ?mk2 ?kc2 ?ha2 ?hm2 ?n2_pieces ?n2_tree ?n2_places ?n2_is_empty ?n2_last ?n2_written ?hn ?htk ?z_abs ?z_all ?z_any ?z_int ?z_isinstance ?z_len ?z_list ?z_max ?z_min ?z_range ?z_set ?z_sorted ?z_str ?g_LETTERS ?g_MOST_BRACKETED ?g_MOST_DEPTH ?g_MOST_PLACES ?g_MOST_QUOTED ?g_REPEATS ?l_REPEATS ?g_SIGNS ?bg7 ?bt7 ?bf7 ?en2 ?ef2_NoneType ?ef2_bool ?ef2_int ?ef2_str ?ef2_tuple ?ef2_list ?ef2_dict ?eo2_0 ?eo2_1 ?eo2_2 ?ic_Pattern ?ity_Pattern ?is_Pattern_1 ?is_Pattern_2 ?is_Pattern_3 ?is_Pattern_4 ?is_Pattern_5 ?is_Pattern_6
    (case aC0 => k_is)
    (case aC1 => k_is)
    (case aC2 => k_is)
    (case a0 => k_is)
    (case l0 => k_is)
    (case c0 => k_is)
    (case k0 => k_is)
    (case a1 => k_is)
    (case l1 => k_is)
    (case c1 => k_is)
    (case k1 => k_is)
    (case a2 => k_is)
    (case l2 => k_is)
    (case c2 => k_is)
    (case k2 => k_is)
    (case a3 => k_is)
    (case l3 => k_is)
    (case c3 => k_is)
    (case k3 => k_is)
    (case a4 => k_is)
    (case l4 => k_is)
    (case c4 => k_is)
    (case k4 => k_is)
    (case a5 => k_is)
    (case l5 => k_is)
    (case c5 => k_is)
    (case k5 => k_is)
    (case a6 => k_is)
    (case l6 => k_is)
    (case c6 => k_is)
    (case k6 => k_is)
    (case i6 => k_is)
    (case a7 => k_is)
    (case l7 => k_is)
    (case c7 => k_is)
    (case k7 => k_is)
    (case i7 => k_is)
    (case a8 => k_is)
    (case l8 => k_is)
    (case c8 => k_is)
    (case k8 => k_is)
    (case i8 => k_is)
    (case a9 => k_is)
    (case l9 => k_is)
    (case c9 => k_is)
    (case k9 => k_is)
    (case i9 => k_is)
    (case a10 => k_is)
    (case l10 => k_is)
    (case c10 => k_is)
    (case k10 => k_is)
    (case i10 => k_is)
    (case a11 => k_is)
    (case l11 => k_is)
    (case c11 => k_is)
    (case k11 => k_is)
    (case i11 => k_is)
    (case a12 => k_is)
    (case l12 => k_is)
    (case c12 => k_is)
    (case k12 => k_is)
    (case i12 => k_is)
    (case a13 => k_is)
    (case l13 => k_is)
    (case c13 => k_is)
    (case k13 => k_is)
    (case i13 => k_is)
    (case a14 => k_is)
    (case l14 => k_is)
    (case c14 => k_is)
    (case k14 => k_is)
    (case i14 => k_is)
    (case a15 => k_is)
    (case l15 => k_is)
    (case c15 => k_is)
    (case k15 => k_is)
    (case i15 => k_is)
    (case a16 => k_is)
    (case l16 => k_is)
    (case c16 => k_is)
    (case k16 => k_is)
    (case i16 => k_is)
    (case a17 => k_is)
    (case l17 => k_is)
    (case c17 => k_is)
    (case k17 => k_is)
    (case i17 => k_is)
    (case a18 => k_is)
    (case l18 => k_is)
    (case c18 => k_is)
    (case k18 => k_is)
    (case i18 => k_is)
    (case a19 => k_is)
    (case l19 => k_is)
    (case c19 => k_is)
    (case k19 => k_is)
    (case i19 => k_is)
    (case a20 => k_is)
    (case l20 => k_is)
    (case c20 => k_is)
    (case k20 => k_is)
    (case i20 => k_is)
    (case a21 => k_is)
    (case l21 => k_is)
    (case c21 => k_is)
    (case k21 => k_is)
    (case i21 => k_is)
    (case a22 => k_is)
    (case l22 => k_is)
    (case c22 => k_is)
    (case k22 => k_is)
    (case a23 => k_is)
    (case l23 => k_is)
    (case c23 => k_is)
    (case k23 => k_is)
    (case a24 => k_is)
    (case l24 => k_is)
    (case c24 => k_is)
    (case k24 => k_is)
    (case a25 => k_is)
    (case l25 => k_is)
    (case c25 => k_is)
    (case k25 => k_is)
    (case a26 => k_is)
    (case l26 => k_is)
    (case c26 => k_is)
    (case k26 => k_is)
    (case a27 => k_is)
    (case l27 => k_is)
    (case c27 => k_is)
    (case k27 => k_is)
    (case a28 => k_is)
    (case l28 => k_is)
    (case c28 => k_is)
    (case k28 => k_is)
    (case a29 => k_is)
    (case l29 => k_is)
    (case c29 => k_is)
    (case k29 => k_is)
    (case a30 => k_is)
    (case l30 => k_is)
    (case c30 => k_is)
    (case k30 => k_is)
    (case a31 => k_is)
    (case l31 => k_is)
    (case c31 => k_is)
    (case k31 => k_is)
    (case a32 => k_is)
    (case l32 => k_is)
    (case c32 => k_is)
    (case k32 => k_is)
    (case a33 => k_is)
    (case l33 => k_is)
    (case c33 => k_is)
    (case k33 => k_is)
    (case a34 => k_is)
    (case l34 => k_is)
    (case c34 => k_is)
    (case k34 => k_is)
    (case pg0 => k_is)
    (case hd0 => k_is)
    (case po0 => k_is)
    (case sa0 => k_is)
    (case mk0 => k_is)
    (case kc0 => k_is)
    (case ha0 => k_is)
    (case hm0 => k_is)
    (case n0_pieces => k_is)
    (case n0_at => k_is)
    (case pg1 => k_is)
    (case hd1 => k_is)
    (case po1 => k_is)
    (case sa1 => k_is)
    (case mk1 => k_is)
    (case kc1 => k_is)
    (case ha1 => k_is)
    (case hm1 => k_is)
    (case n1_letters => k_is)
    (case n1_follow => k_is)
    (case pg2 => k_is)
    (case hd2 => k_is)
    (case po2 => k_is)
    (case sa2 => k_is)
    (case mk2 => k_is)
    (case kc2 => k_is)
    (case ha2 => k_is)
    (case hm2 => k_is)
    (case n2_pieces => k_is)
    (case n2_tree => k_is)
    (case n2_places => k_is)
    (case n2_is_empty => k_is)
    (case n2_last => k_is)
    (case n2_written => k_is)
    (case hn => k_is)
    (case htk => k_is)
    (case z_abs => k_is)
    (case z_all => k_is)
    (case z_any => k_is)
    (case z_int => k_is)
    (case z_isinstance => k_is)
    (case z_len => k_is)
    (case z_list => k_is)
    (case z_max => k_is)
    (case z_min => k_is)
    (case z_range => k_is)
    (case z_set => k_is)
    (case z_sorted => k_is)
    (case z_str => k_is)
    (case g_LETTERS => exact Ab.loose_str XP (by first | exact List.Mem.head _ | simp))
    (case g_MOST_BRACKETED => k_is)
    (case g_MOST_DEPTH => k_is)
    (case g_MOST_PLACES => k_is)
    (case g_MOST_QUOTED => k_is)
    (case g_REPEATS => k_is)
    (case l_REPEATS => k_is)
    (case g_SIGNS => k_is)
    (case bg7 => k_is)
    (case bt7 => k_is)
    (case bf7 => k_is)
    (case en2 => k_is)
    (case ef2_NoneType => k_is)
    (case ef2_bool => k_is)
    (case ef2_int => k_is)
    (case ef2_str => k_is)
    (case ef2_tuple => k_is)
    (case ef2_list => k_is)
    (case ef2_dict => k_is)
    (case eo2_0 => k_is)
    (case eo2_1 => k_is)
    (case eo2_2 => k_is)
    (case ic_Pattern => k_is)
    (case ity_Pattern => k_is)
    (case is_Pattern_1 => k_is)
    (case is_Pattern_2 => k_is)
    (case is_Pattern_3 => k_is)
    (case is_Pattern_4 => k_is)
    (case is_Pattern_5 => k_is)
    (case is_Pattern_6 => k_is)

