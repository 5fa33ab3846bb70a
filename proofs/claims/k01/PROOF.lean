import PyProof.Rows.All
import Wide.All
import OpenK.AllK
import Wide.FinOn
import HandS.ForMost
import HandS.ForExc
import HandS.Style
import HandS.Wide
import HandS.WideBits
import HandS.IsInst
import HandS.SortInts
import HandS.Conv
import HandS.Flow
import HandS.Deep
import HandS.TryOnly
import PyProof.StrOps2
import PyProof.ListStr
import HandS.RaiseMore
import HandS.Dict
import KE.KSortedM
import PyProof.ReprRoads
import HandS.Zip
import HandS.Small
import HandS.Ends
import HandS.Defaults
import HandS.HeadEnd
import HandS.Head2
import HandS.HeadHook1
import HandS.HeadHook2
import PyProof.ReprBulk
import PyProof.FitsInt
import KE.KStateDown
import HandS.More
import HandS.Words
import HandS.WordsExc
import HandS.Head0
import HandS.Head1
import PySem.Challenge.RW_waysround_k01_names_days_and_lots
set_option Elab.async false
set_option linter.all false
set_option maxRecDepth 100000
set_option autoImplicit false
set_option maxHeartbeats 1000000
set_option maxHeartbeats 0
namespace PV
abbrev Sto := L2.St
open PySem PySem.Spec PyProof.Rows L2

def keyD : Key → PyData
  | .inl i => .int i
  | .inr x => .str x

mutual
def DR (K : PySem.W.Frag) (H : Hp) : PyData → V → Prop
  | .none, v => v = .non
  | .bool b, v => v = .bl b
  | .int i, v => v = .int i
  | .str x, v => v = .str x
  | .list ds, v => ∃ a xs, v = .ref a ∧ Rd H a (.lst xs) ∧ DRs K H ds xs
  | .tuple ds, v => ∃ a xs, v = .ref a ∧ SqT K H a xs ∧ DRs K H ds xs
  | .dict kvs, v => ∃ a ks, v = .ref a ∧ Rd H a (.dK ks) ∧ DRk K H kvs ks
def DRs (K : PySem.W.Frag) (H : Hp) : List PyData → List V → Prop
  | [], vs => vs = []
  | d :: ds, vs => ∃ v r, vs = v :: r ∧ DR K H d v ∧ DRs K H ds r
def DRk (K : PySem.W.Frag) (H : Hp) : List (PyData × PyData) → List (Key × V) → Prop
  | [], ks => ks = []
  | (k, d) :: r, ks => ∃ key v r', ks = (key, v) :: r' ∧ k = keyD key ∧ DR K H d v ∧ DRk K H r r'
end

theorem same_rd {H H' : Hp} (h : Same H H') {a : Addr} {u : HO} (r : Rd H a u) : Rd H' a u := by
  rcases r with r | ⟨o, r⟩
  · exact .inl (h _ _ r)
  · exact .inr ⟨o, h _ _ r⟩
theorem same_sql {K : PySem.W.Frag} {H H' : Hp} (h : Same H H') {a : Addr} {xs : List V} (r : SqL K H a xs) : SqL K H' a xs := h.seq r
theorem same_sqt {K : PySem.W.Frag} {H H' : Hp} (h : Same H H') {a : Addr} {xs : List V} (r : SqT K H a xs) : SqT K H' a xs := by
  rcases r with r | r
  · exact .inl (same_rd h r)
  · exact .inr r

mutual
theorem DR.mono {K : PySem.W.Frag} {H H' : Hp} (h : Same H H') : ∀ (d : PyData) (v : V), DR K H d v → DR K H' d v
  | .none, v, r => r
  | .bool b, v, r => r
  | .int i, v, r => r
  | .str x, v, r => r
  | .list ds, v, r => by
    obtain ⟨a, xs, e, s, t⟩ := r
    exact ⟨a, xs, e, same_rd h s, DRs.mono h ds xs t⟩
  | .tuple ds, v, r => by
    obtain ⟨a, xs, e, s, t⟩ := r
    exact ⟨a, xs, e, same_sqt h s, DRs.mono h ds xs t⟩
  | .dict kvs, v, r => by
    obtain ⟨a, xs, e, s, t⟩ := r
    exact ⟨a, xs, e, same_rd h s, DRk.mono h kvs xs t⟩
theorem DRs.mono {K : PySem.W.Frag} {H H' : Hp} (h : Same H H') : ∀ (ds : List PyData) (vs : List V), DRs K H ds vs → DRs K H' ds vs
  | [], vs, r => r
  | d :: ds, vs, r => by
    obtain ⟨v, rr, e, s, t⟩ := r
    exact ⟨v, rr, e, DR.mono h d v s, DRs.mono h ds rr t⟩
theorem DRk.mono {K : PySem.W.Frag} {H H' : Hp} (h : Same H H') : ∀ (ds : List (PyData × PyData)) (ks : List (Key × V)), DRk K H ds ks → DRk K H' ds ks
  | [], vs, r => r
  | (k, d) :: ds, vs, r => by
    obtain ⟨key, v, rr, e, ek, s, t⟩ := r
    exact ⟨key, v, rr, e, ek, DR.mono h d v s, DRk.mono h ds rr t⟩
end

theorem DRs.len {K : PySem.W.Frag} {H : Hp} : ∀ {ds : List PyData} {vs : List V}, DRs K H ds vs → ds.length = vs.length
  | [], vs, r => by
    have r' : vs = [] := by simpa [DRs] using r
    rw [r']; rfl
  | d :: ds, vs, r => by
    unfold DRs at r
    obtain ⟨v, rr, e, s, t⟩ := r
    rw [e, List.length_cons, List.length_cons, DRs.len t]
theorem DRs.get {K : PySem.W.Frag} {H : Hp} : ∀ {ds : List PyData} {vs : List V} (i : Nat) (d : PyData), DRs K H ds vs → ds[i]? = some d → ∃ v, vs[i]? = some v ∧ DR K H d v
  | [], vs, i, d, r, h => by simp at h
  | d :: ds, vs, 0, d', r, h => by
    unfold DRs at r
    obtain ⟨v, rr, e, s, t⟩ := r
    simp at h; subst h; subst e
    exact ⟨v, rfl, s⟩
  | d :: ds, vs, i + 1, d', r, h => by
    unfold DRs at r
    obtain ⟨v, rr, e, s, t⟩ := r
    subst e
    simp only [List.getElem?_cons_succ] at h ⊢
    exact DRs.get i d' t h
theorem DRs.getV {K : PySem.W.Frag} {H : Hp} : ∀ {ds : List PyData} {vs : List V} (i : Nat) (v : V), DRs K H ds vs → vs[i]? = some v → ∃ d, ds[i]? = some d ∧ DR K H d v
  | [], vs, i, v, r, h => by
    have r' : vs = [] := by simpa [DRs] using r
    subst r'; simp at h
  | d :: ds, vs, 0, v', r, h => by
    unfold DRs at r
    obtain ⟨v, rr, e, s, t⟩ := r
    subst e; simp at h; subst h
    exact ⟨d, rfl, s⟩
  | d :: ds, vs, i + 1, v', r, h => by
    unfold DRs at r
    obtain ⟨v, rr, e, s, t⟩ := r
    subst e
    simp only [List.getElem?_cons_succ] at h ⊢
    exact DRs.getV i v' t h
theorem DRs.append {K : PySem.W.Frag} {H : Hp} : ∀ {ds es : List PyData} {vs us : List V}, DRs K H ds vs → DRs K H es us → DRs K H (ds ++ es) (vs ++ us)
  | [], es, vs, us, r, h => by
    have r' : vs = [] := by simpa [DRs] using r
    subst r'; exact h
  | d :: ds, es, vs, us, r, h => by
    unfold DRs at r
    obtain ⟨v, rr, e, s, t⟩ := r
    subst e
    show DRs K H (d :: (ds ++ es)) (v :: (rr ++ us))
    unfold DRs
    exact ⟨v, _, rfl, s, DRs.append t h⟩
theorem DRs.one {K : PySem.W.Frag} {H : Hp} {d : PyData} {v : V} (r : DR K H d v) : DRs K H [d] [v] := by
  unfold DRs
  exact ⟨v, [], rfl, r, by simp [DRs]⟩
theorem DRs.cons {K : PySem.W.Frag} {H : Hp} {d : PyData} {v : V} {ds : List PyData} {vs : List V} (r : DR K H d v) (t : DRs K H ds vs) : DRs K H (d :: ds) (v :: vs) := by
  unfold DRs
  exact ⟨v, vs, rfl, r, t⟩
theorem DRs.nil {K : PySem.W.Frag} {H : Hp} : DRs K H [] [] := by simp [DRs]
theorem DRs.take {K : PySem.W.Frag} {H : Hp} : ∀ (n : Nat) {ds : List PyData} {vs : List V}, DRs K H ds vs → DRs K H (ds.take n) (vs.take n)
  | 0, _, _, _ => by rw [List.take_zero, List.take_zero]; exact .nil
  | n + 1, [], vs, r => by
    have r' : vs = [] := by simpa [DRs] using r
    subst r'; exact .nil
  | n + 1, d :: ds, vs, r => by
    unfold DRs at r
    obtain ⟨v, rr, e, s, t⟩ := r
    subst e
    rw [List.take_succ_cons, List.take_succ_cons]
    exact .cons s (DRs.take n t)
theorem DRs.drop {K : PySem.W.Frag} {H : Hp} : ∀ (n : Nat) {ds : List PyData} {vs : List V}, DRs K H ds vs → DRs K H (ds.drop n) (vs.drop n)
  | 0, _, _, r => by rw [List.drop_zero, List.drop_zero]; exact r
  | n + 1, [], vs, r => by
    have r' : vs = [] := by simpa [DRs] using r
    subst r'; exact .nil
  | n + 1, d :: ds, vs, r => by
    unfold DRs at r
    obtain ⟨v, rr, e, s, t⟩ := r
    subst e
    rw [List.drop_succ_cons, List.drop_succ_cons]
    exact DRs.drop n t
theorem DRs.set {K : PySem.W.Frag} {H : Hp} : ∀ (i : Nat) {ds : List PyData} {vs : List V} {d : PyData} {v : V}, DRs K H ds vs → DR K H d v → DRs K H (ds.set i d) (vs.set i v)
  | i, [], vs, d, v, r, _ => by
    have r' : vs = [] := by simpa [DRs] using r
    subst r'; exact .nil
  | 0, d :: ds, vs, d', v', r, q => by
    unfold DRs at r
    obtain ⟨v, rr, e, s, t⟩ := r
    subst e
    exact .cons q t
  | i + 1, d :: ds, vs, d', v', r, q => by
    unfold DRs at r
    obtain ⟨v, rr, e, s, t⟩ := r
    subst e
    exact .cons s (DRs.set i t q)
theorem DRs.rev {K : PySem.W.Frag} {H : Hp} : ∀ {ds : List PyData} {vs : List V}, DRs K H ds vs → DRs K H ds.reverse vs.reverse
  | [], vs, r => by
    have r' : vs = [] := by simpa [DRs] using r
    subst r'; exact .nil
  | d :: ds, vs, r => by
    unfold DRs at r
    obtain ⟨v, rr, e, s, t⟩ := r
    subst e
    rw [List.reverse_cons, List.reverse_cons]
    exact (DRs.rev t).append (.one s)
theorem DRs.ints {K : PySem.W.Frag} {H : Hp} : ∀ (ns : List Int), DRs K H (ns.map .int) (ns.map V.int)
  | [] => .nil
  | n :: ns => .cons (by unfold DR; rfl) (DRs.ints ns)
theorem DRs.intsV {K : PySem.W.Frag} {H : Hp} : ∀ (ns : List Int) {vs : List V}, DRs K H (ns.map .int) vs → vs = ns.map V.int
  | [], vs, r => by simpa [DRs] using r
  | n :: ns, vs, r => by
    rw [List.map_cons] at r
    unfold DRs at r
    obtain ⟨v, rr, e, s, t⟩ := r
    unfold DR at s
    subst e; subst s
    rw [DRs.intsV ns t]; rfl
theorem DRs.strsV {K : PySem.W.Frag} {H : Hp} : ∀ (ns : List Str) {vs : List V}, DRs K H (ns.map .str) vs → vs = ns.map V.str
  | [], vs, r => by simpa [DRs] using r
  | n :: ns, vs, r => by
    rw [List.map_cons] at r
    unfold DRs at r
    obtain ⟨v, rr, e, s, t⟩ := r
    unfold DR at s
    subst e; subst s
    rw [DRs.strsV ns t]; rfl
theorem DRs.blsV {K : PySem.W.Frag} {H : Hp} : ∀ (ns : List Bool) {vs : List V}, DRs K H (ns.map .bool) vs → vs = ns.map V.bl
  | [], vs, r => by simpa [DRs] using r
  | n :: ns, vs, r => by
    rw [List.map_cons] at r
    unfold DRs at r
    obtain ⟨v, rr, e, s, t⟩ := r
    unfold DR at s
    subst e; subst s
    rw [DRs.blsV ns t]; rfl

/-! ### slots, the state -/
inductive Vl where
  | imm (d : PyData) | fresh (d : PyData) | vr (i : Nat)
/-- a slot: frozen data; an object of one's own (may be changed); the same while a loop walks it; an object that a caller may change -/
inductive Slot where
  | imm (d : PyData) | own (d : PyData) | lok (d : PyData) | bor (d : PyData)
def Slot.dat : Slot → PyData
  | .imm d => d | .own d => d | .lok d => d | .bor d => d
def Slot.mine : Slot → Bool
  | .imm _ => false | .own _ => true | .lok _ => true | .bor _ => true
def Slot.uniq : Slot → Bool
  | .imm _ => false | .own _ => true | .lok _ => true | .bor _ => false
theorem Slot.mine_of_uniq {s : Slot} (h : s.uniq = true) : s.mine = true := by
  cases s <;> first | rfl | cases h
abbrev En := List (Option Slot)

def Top (K : PySem.W.Frag) (FH H : Hp) : PyData → Addr → Prop
  | .list ds, a => ∃ xs, H a = some (.lst xs) ∧ DRs K FH ds xs
  | .dict kvs, a => ∃ ks, H a = some (.dK ks) ∧ DRk K FH kvs ks
  | _, _ => False

theorem Top.dr {K : PySem.W.Frag} {FH H : Hp} (sub : Same FH H) {d : PyData} {a : Addr} (t : Top K FH H d a) : DR K H d (.ref a) := by
  cases d with
  | list ds =>
    obtain ⟨xs, h, r⟩ := t
    unfold DR
    exact ⟨a, xs, rfl, .inl h, DRs.mono sub _ _ r⟩
  | dict kvs =>
    obtain ⟨xs, h, r⟩ := t
    unfold DR
    exact ⟨a, xs, rfl, .inl h, DRk.mono sub _ _ r⟩
  | _ => exact t.elim
theorem Top.ex {K : PySem.W.Frag} {FH H : Hp} {d : PyData} {a : Addr} (t : Top K FH H d a) : ∃ o, H a = some o := by
  cases d with
  | list ds => obtain ⟨xs, h, r⟩ := t; exact ⟨_, h⟩
  | dict kvs => obtain ⟨xs, h, r⟩ := t; exact ⟨_, h⟩
  | _ => exact t.elim
/-- the frozen part may grow, the object itself stands -/
theorem Top.mono {K : PySem.W.Frag} {FH FH' H H' : Hp} (sub : Same FH FH') {d : PyData} {a : Addr} (t : Top K FH H d a) (k : ∀ o, H a = some o → H' a = some o) : Top K FH' H' d a := by
  cases d with
  | list ds => obtain ⟨xs, h, r⟩ := t; exact ⟨xs, k _ h, DRs.mono sub _ _ r⟩
  | dict kvs => obtain ⟨xs, h, r⟩ := t; exact ⟨xs, k _ h, DRk.mono sub _ _ r⟩
  | _ => exact t.elim
/-- frozen -/
theorem Top.fz {K : PySem.W.Frag} {FH H : Hp} {d : PyData} {a : Addr} {o : HO} (t : Top K FH H d a) (n : FH a = none) (e : H a = some o) : DR K (upd FH a o) d (.ref a) := by
  have hs : Same FH (upd FH a o) := fun b u h => by rw [upd_ne (ne_of_none h n)]; exact h
  cases d with
  | list ds =>
    obtain ⟨xs, h, r⟩ := t
    rw [e] at h; cases h
    unfold DR
    exact ⟨a, xs, rfl, .inl upd_same, DRs.mono hs _ _ r⟩
  | dict kvs =>
    obtain ⟨xs, h, r⟩ := t
    rw [e] at h; cases h
    unfold DR
    exact ⟨a, xs, rfl, .inl upd_same, DRk.mono hs _ _ r⟩
  | _ => exact t.elim

def SlR (K : PySem.W.Frag) (FH H : Hp) : Slot → V → Prop
  | .imm d, v => DR K FH d v
  | .own d, v => ∃ a, v = .ref a ∧ FH a = none ∧ Top K FH H d a
  | .lok d, v => ∃ a, v = .ref a ∧ FH a = none ∧ Top K FH H d a
  | .bor d, v => ∃ a, v = .ref a ∧ FH a = none ∧ Top K FH H d a
theorem SlR.mineD {K : PySem.W.Frag} {FH H : Hp} {s : Slot} {v : V} (h : SlR K FH H s v) (m : s.mine = true) : ∃ a, v = .ref a ∧ FH a = none ∧ Top K FH H s.dat a := by
  cases s with
  | imm d => cases m
  | own d => exact h
  | lok d => exact h
  | bor d => exact h
theorem SlR.ofMine {K : PySem.W.Frag} {FH H : Hp} {s : Slot} {a : Addr} (m : s.mine = true) (n : FH a = none) (t : Top K FH H s.dat a) : SlR K FH H s (.ref a) := by
  cases s with
  | imm d => cases m
  | own d => exact ⟨a, rfl, n, t⟩
  | lok d => exact ⟨a, rfl, n, t⟩
  | bor d => exact ⟨a, rfl, n, t⟩
theorem SlR.dr {K : PySem.W.Frag} {FH H : Hp} (sub : Same FH H) {s : Slot} {v : V} (h : SlR K FH H s v) : DR K H s.dat v := by
  cases s with
  | imm d => exact DR.mono sub _ _ h
  | own d => obtain ⟨a, e, n, t⟩ := h; subst e; exact t.dr sub
  | lok d => obtain ⟨a, e, n, t⟩ := h; subst e; exact t.dr sub
  | bor d => obtain ⟨a, e, n, t⟩ := h; subst e; exact t.dr sub

def ownAt (e : En) (σ : Sto) (a : Addr) : Prop := ∃ (i : Nat) (d : PyData), e[i]? = some (some (Slot.own d)) ∧ σ[i]? = some (some (V.ref a))

def mineAt (e : En) (σ : Sto) (a : Addr) : Prop := ∃ (i : Nat) (s : Slot), e[i]? = some (some s) ∧ s.mine = true ∧ σ[i]? = some (some (V.ref a))

structure Rl (K : PySem.W.Frag) (FH : Hp) (e : En) (σ : Sto) (H : Hp) : Prop where
  sub : Same FH H
  len : e.length = σ.length
  slot : ∀ (i : Nat) (s : Slot), e[i]? = some (some s) → ∃ v, σ[i]? = some (some v) ∧ SlR K FH H s v
  sep : ∀ (i j : Nat) (a : Addr) (d s : Slot), i ≠ j → e[i]? = some (some d) → d.uniq = true → σ[i]? = some (some (V.ref a)) → e[j]? = some (some s) → s.mine = true → σ[j]? ≠ some (some (V.ref a))

structure Stp (FH : Hp) (e : En) (σ : Sto) (H : Hp) (FH' : Hp) (e' : En) (σ' : Sto) (H' : Hp) : Prop where
  fle : Same FH FH'
  keep : ∀ a o, H a = some o → ¬ ownAt e σ a → H' a = some o
  aloc : ∀ a, H' a = none → H a = none
  fnew : ∀ a, FH a = none → H a ≠ none → ¬ ownAt e σ a → FH' a = none
  own : ∀ a, ownAt e' σ' a → ownAt e σ a ∨ H a = none
  mn : ∀ a, mineAt e' σ' a → mineAt e σ a ∨ H a = none
  lk : ∀ (i : Nat) (d : PyData), e'[i]? = some (some (.lok d)) → e[i]? = some (some (.lok d)) ∧ σ'[i]? = σ[i]?

theorem Stp.refl (FH : Hp) (e : En) (σ : Sto) (H : Hp) : Stp FH e σ H FH e σ H :=
  ⟨fun _ _ h => h, fun _ _ h _ => h, fun _ h => h, fun _ h _ _ => h, fun _ h => .inl h, fun _ h => .inl h, fun _ _ h => ⟨h, rfl⟩⟩
theorem Stp.trans {FH FH1 FH2 : Hp} {e e1 e2 : En} {σ σ1 σ2 : Sto} {H H1 H2 : Hp} (x : Stp FH e σ H FH1 e1 σ1 H1) (y : Stp FH1 e1 σ1 H1 FH2 e2 σ2 H2) : Stp FH e σ H FH2 e2 σ2 H2 where
  fle := fun b o h => y.fle b o (x.fle b o h)
  keep := fun a o h n => y.keep a o (x.keep a o h n) fun q => by
    rcases x.own a q with z | z
    · exact n z
    · rw [h] at z; cases z
  aloc := fun a h => x.aloc a (y.aloc a h)
  fnew := fun a h h0 n => y.fnew a (x.fnew a h h0 n) (fun z => h0 (x.aloc a z)) fun q => by
    rcases x.own a q with z | z
    · exact n z
    · exact h0 z
  own := fun a q => by
    rcases y.own a q with z | z
    · exact x.own a z
    · exact .inr (x.aloc a z)
  mn := fun a q => by
    rcases y.mn a q with z | z
    · exact x.mn a z
    · exact .inr (x.aloc a z)
  lk := fun i d h => by
    obtain ⟨h1, h2⟩ := y.lk i d h
    obtain ⟨h3, h4⟩ := x.lk i d h1
    exact ⟨h3, h2.trans h4⟩

section
variable {K : PySem.W.Frag} {FH FH' H H' : Hp} {e e' : En} {σ σ' : Sto}
theorem Rl.dr (R : Rl K FH e σ H) {i : Nat} {s : Slot} (h : e[i]? = some (some s)) : ∃ v, σ[i]? = some (some v) ∧ DR K H s.dat v := by
  obtain ⟨v, e1, r⟩ := R.slot i s h
  exact ⟨v, e1, r.dr R.sub⟩
theorem Rl.mineSome (R : Rl K FH e σ H) {i : Nat} {s : Slot} (h : e[i]? = some (some s)) (m : s.mine = true) : ∃ a o, σ[i]? = some (some (.ref a)) ∧ H a = some o ∧ FH a = none ∧ Top K FH H s.dat a := by
  obtain ⟨v, e1, r⟩ := R.slot i s h
  obtain ⟨a, ev, n, t⟩ := r.mineD m
  subst ev
  obtain ⟨o, ho⟩ := t.ex
  exact ⟨a, o, e1, ho, n, t⟩

/-- a slot of one's own is frozen -/
theorem Rl.freeze (R : Rl K FH e σ H) {i : Nat} {d : PyData} (h : e[i]? = some (some (.own d))) :
    ∃ a o, σ[i]? = some (some (.ref a)) ∧ H a = some o ∧ Rl K (upd FH a o) (e.set i (some (.imm d))) σ H ∧ Stp FH e σ H (upd FH a o) (e.set i (some (.imm d))) σ H ∧ DR K (upd FH a o) d (.ref a) := by
  obtain ⟨a, o, e1, ho, n, t⟩ := R.mineSome h rfl
  have hs : Same FH (upd FH a o) := fun b u h => by rw [upd_ne (ne_of_none h n)]; exact h
  have hd := t.fz n ho
  have hi : i < e.length := (List.getElem?_eq_some_iff.mp h).1
  refine ⟨a, o, e1, ho, ⟨?_, ?_, ?_, ?_⟩, ⟨hs, fun _ _ h _ => h, fun _ h => h, fun b hb h0 no => ?_, fun b q => ?_, fun b q => ?_, fun j d' hj => ?_⟩, hd⟩
  · intro b u hb
    by_cases hba : b = a
    · subst hba; rw [upd_same] at hb; rw [ho]; exact hb
    · rw [upd_ne hba] at hb; exact R.sub _ _ hb
  · rw [List.length_set]; exact R.len
  · intro j s hj
    by_cases hji : i = j
    · subst hji
      rw [List.getElem?_set_self hi] at hj
      cases hj
      exact ⟨_, e1, hd⟩
    · rw [List.getElem?_set_ne hji] at hj
      obtain ⟨v, e2, r⟩ := R.slot j s hj
      refine ⟨v, e2, ?_⟩
      cases hm : s.mine with
      | false =>
        cases s with
        | imm d' => exact DR.mono hs _ _ r
        | own d' => cases hm
        | lok d' => cases hm
        | bor d' => cases hm
      | true =>
        obtain ⟨b, ev, nb, tb⟩ := r.mineD hm
        subst ev
        have hne : b ≠ a := fun z => R.sep i j a _ s hji h rfl e1 hj hm (by rw [e2, z])
        exact SlR.ofMine hm (by rw [upd_ne hne]; exact nb) (tb.mono hs fun _ q => q)
  · intro p q b d' s hpq hp hu hσ hq hm
    by_cases hpi : i = p
    · subst hpi; rw [List.getElem?_set_self hi] at hp; cases hp; cases hu
    · rw [List.getElem?_set_ne hpi] at hp
      by_cases hqi : i = q
      · subst hqi; rw [List.getElem?_set_self hi] at hq; cases hq; cases hm
      · rw [List.getElem?_set_ne hqi] at hq
        exact R.sep p q b d' s hpq hp hu hσ hq hm
  · have hne : b ≠ a := fun z => no ⟨i, d, h, by rw [z]; exact e1⟩
    rw [upd_ne hne]; exact hb
  · obtain ⟨j, d', hj, hσ⟩ := q
    by_cases hji : i = j
    · subst hji; rw [List.getElem?_set_self hi] at hj; cases hj
    · rw [List.getElem?_set_ne hji] at hj
      exact .inl ⟨j, d', hj, hσ⟩
  · obtain ⟨j, d', hj, hm, hσ⟩ := q
    by_cases hji : i = j
    · subst hji; rw [List.getElem?_set_self hi] at hj; cases hj; cases hm
    · rw [List.getElem?_set_ne hji] at hj
      exact .inl ⟨j, d', hj, hm, hσ⟩
  · by_cases hji : i = j
    · subst hji; rw [List.getElem?_set_self hi] at hj; cases hj
    · rw [List.getElem?_set_ne hji] at hj; exact ⟨hj, rfl⟩

/-- a new object is laid -/
theorem Rl.laid (R : Rl K FH e σ H) {p : Addr} {o : HO} (hp : H p = none) : Rl K FH e σ (upd H p o) ∧ Stp FH e σ H FH e σ (upd H p o) := by
  have hs : Same H (upd H p o) := fun b u h => by rw [upd_ne (ne_of_none h hp)]; exact h
  refine ⟨⟨fun b u h => hs _ _ (R.sub _ _ h), R.len, fun i s h => ?_, R.sep⟩, ⟨fun _ _ h => h, fun a u h _ => hs _ _ h, fun a h => ?_, fun _ h _ _ => h, fun _ h => .inl h, fun _ h => .inl h, fun _ _ h => ⟨h, rfl⟩⟩⟩
  · obtain ⟨v, e1, r⟩ := R.slot i s h
    refine ⟨v, e1, ?_⟩
    cases hm : s.mine with
    | false =>
      cases s with
      | imm d' => exact r
      | own d' => cases hm
      | lok d' => cases hm
      | bor d' => cases hm
    | true =>
      obtain ⟨b, ev, nb, tb⟩ := r.mineD hm
      subst ev
      exact SlR.ofMine hm nb (tb.mono (fun _ _ h => h) fun _ q => hs _ _ q)
  · by_cases hap : a = p
    · subst hap; rw [upd_same] at h; cases h
    · rw [upd_ne hap] at h; exact h

/-- an address that no slot of one's own holds is frozen -/
theorem Rl.freezeAt (R : Rl K FH e σ H) {p : Addr} {o : HO} (n : FH p = none) (hp : H p = some o) (ns : ∀ (j : Nat) (s : Slot), e[j]? = some (some s) → s.mine = true → σ[j]? ≠ some (some (V.ref p))) :
    Rl K (upd FH p o) e σ H := by
  have hs : Same FH (upd FH p o) := fun b u h => by rw [upd_ne (ne_of_none h n)]; exact h
  refine ⟨?_, R.len, fun j s hj => ?_, R.sep⟩
  · intro b u hb
    by_cases hba : b = p
    · subst hba; rw [upd_same] at hb; rw [hp]; exact hb
    · rw [upd_ne hba] at hb; exact R.sub _ _ hb
  · obtain ⟨v, e2, r⟩ := R.slot j s hj
    refine ⟨v, e2, ?_⟩
    cases hm : s.mine with
    | false =>
      cases s with
      | imm d' => exact DR.mono hs _ _ r
      | own d' => cases hm
      | lok d' => cases hm
      | bor d' => cases hm
    | true =>
      obtain ⟨b, ev, nb, tb⟩ := r.mineD hm
      subst ev
      have hne : b ≠ p := fun z => ns j s hj hm (by rw [e2, z])
      exact SlR.ofMine hm (by rw [upd_ne hne]; exact nb) (tb.mono hs fun _ q => q)

/-- one's own object is changed -/
theorem Rl.write (R : Rl K FH e σ H) {i : Nat} {d d' : PyData} {a : Addr} {o' : HO} (h : e[i]? = some (some (.own d))) (e1 : σ[i]? = some (some (.ref a))) (t : Top K FH (upd H a o') d' a) :
    Rl K FH (e.set i (some (.own d'))) σ (upd H a o') ∧ Stp FH e σ H FH (e.set i (some (.own d'))) σ (upd H a o') := by
  obtain ⟨a', o, e1', ho, n, t0⟩ := R.mineSome h rfl
  rw [e1] at e1'; cases e1'
  have hi : i < e.length := (List.getElem?_eq_some_iff.mp h).1
  have own_a : ownAt e σ a := ⟨i, d, h, e1⟩
  refine ⟨⟨fun b u hb => ?_, by rw [List.length_set]; exact R.len, fun j s hj => ?_, fun p q b dd s hpq hp hu hσ hq hm => ?_⟩, ⟨fun _ _ h => h, fun b u hb no => ?_, fun b hb => ?_, fun _ h _ _ => h, fun b q => ?_, fun b q => ?_, fun j dd hj => ?_⟩⟩
  · have hne : b ≠ a := fun z => by rw [z, n] at hb; cases hb
    rw [upd_ne hne]; exact R.sub _ _ hb
  · by_cases hji : i = j
    · subst hji
      rw [List.getElem?_set_self hi] at hj
      cases hj
      exact ⟨_, e1, a, rfl, n, t⟩
    · rw [List.getElem?_set_ne hji] at hj
      obtain ⟨v, e2, r⟩ := R.slot j s hj
      refine ⟨v, e2, ?_⟩
      cases hm : s.mine with
      | false =>
        cases s with
        | imm d' => exact r
        | own d' => cases hm
        | lok d' => cases hm
        | bor d' => cases hm
      | true =>
        obtain ⟨b, ev, nb, tb⟩ := r.mineD hm
        subst ev
        have hne : b ≠ a := fun z => R.sep i j a _ s hji h rfl e1 hj hm (by rw [e2, z])
        exact SlR.ofMine hm nb (tb.mono (fun _ _ h => h) fun _ q => by rw [upd_ne hne]; exact q)
  · have hp' : ∃ dd' : Slot, e[p]? = some (some dd') ∧ dd'.uniq = true := by
      by_cases hpi : i = p
      · subst hpi; exact ⟨_, h, rfl⟩
      · rw [List.getElem?_set_ne hpi] at hp; exact ⟨_, hp, hu⟩
    have hq' : ∃ s' : Slot, e[q]? = some (some s') ∧ s'.mine = true := by
      by_cases hqi : i = q
      · subst hqi; exact ⟨_, h, rfl⟩
      · rw [List.getElem?_set_ne hqi] at hq; exact ⟨_, hq, hm⟩
    obtain ⟨dd', hp', hu'⟩ := hp'
    obtain ⟨s', hq', hm'⟩ := hq'
    exact R.sep p q b dd' s' hpq hp' hu' hσ hq' hm'
  · have hne : b ≠ a := fun z => no (z ▸ own_a)
    rw [upd_ne hne]; exact hb
  · by_cases hba : b = a
    · subst hba; rw [upd_same] at hb; cases hb
    · rw [upd_ne hba] at hb; exact hb
  · obtain ⟨j, dd, hj, hσ⟩ := q
    by_cases hji : i = j
    · subst hji; rw [e1] at hσ; cases hσ; exact .inl own_a
    · rw [List.getElem?_set_ne hji] at hj
      exact .inl ⟨j, dd, hj, hσ⟩
  · obtain ⟨j, dd, hj, hm, hσ⟩ := q
    by_cases hji : i = j
    · subst hji; rw [e1] at hσ; cases hσ; exact .inl ⟨i, _, h, rfl, e1⟩
    · rw [List.getElem?_set_ne hji] at hj
      exact .inl ⟨j, dd, hj, hm, hσ⟩
  · by_cases hji : i = j
    · subst hji; rw [List.getElem?_set_self hi] at hj; cases hj
    · rw [List.getElem?_set_ne hji] at hj; exact ⟨hj, rfl⟩
end
end PV

namespace PV
open PySem PySem.Spec PyProof.Rows L2

/-! ### an own small syntax -/
inductive Bo where
  | add | sub | mul | fdiv | md | pow | shl | shr | band | bor | bxor
  deriving DecidableEq
inductive Co where
  | eq | ne | lt | le | gt | ge | inn | nin | is | isn
  deriving DecidableEq
inductive Bi where
  | len | abs | max | min | int | bool | str | list | tuple | sum | sorted | any | all | repr
  deriving DecidableEq
inductive Me where
  | join | index | count | bits
  deriving DecidableEq
mutual
inductive Tg where
  | v (i : Nat) | t (ts : Tgs)
inductive Tgs where
  | nil | cons (t : Tg) (r : Tgs)
end
mutual
inductive E where
  | var (i : Nat)
  | cn (c : PyData)
  | glo (k : Nat)
  | bin (op : Bo) (a b : E)
  | neg (a : E)
  | nt (a : E)
  | and (a b : E)
  | or (a b : E)
  | cmp (op : Co) (a b : E)
  | cmp2 (op op2 : Co) (a b c : E)
  | ife (c a b : E)
  | callk (k : Nat) (es ks : Es)
  | bi (b : Bi) (es : Es)
  | isi (a : E) (Ts : List Nat)
  | me (m : Me) (o : E) (es : Es)
  | sub (a i : E)
  | sli (a : E) (lo hi : Oe)
  | slr (a : E)
  | tup (es : Es)
  | lst (es : Es)
  | dic (kv : Es)
  | lc (elt : E) (tg : Tg) (it : It) (c : Oe) (own : List Nat)
  | fz (a : E)
inductive Es where
  | nil | cons (e : E) (r : Es)
inductive Oe where
  | no | so (e : E)
inductive It where
  | seq (e : E) | rng1 (a : E) | rng2 (a b : E) | enu (e : E) | zip (a b : E)
end
mutual
inductive S where
  | asg (tg : Tg) (e : E)
  | par (is : List Nat) (es : Es)
  | setI (i : Nat) (k e : E)
  | app (i : Nat) (e : E)
  | ret (e : E)
  | retN
  | ex (e : E)
  | ife (c : E) (a b : Ss)
  | for (tg : Tg) (it : It) (b : Ss)
  | whl (c : E) (b : Ss)
  | pass | brk | cont
inductive Ss where
  | nil | cons (s : S) (r : Ss)
end

/-! ### outcomes -/
/-- an exception: its class (by number), its fields -/
structure Xc where
  c : Nat
  fs : List PyData
inductive Out (α : Type) where
  | ok (a : α) (s : En)
  | exc (x : Xc) (s : En)
  | stuck
def Out.bind {α β : Type} (o : Out α) (f : α → En → Out β) : Out β :=
  match o with
  | .ok a s => f a s
  | .exc x s => .exc x s
  | .stuck => .stuck
@[simp] theorem Out.bind_ok {α β : Type} (a : α) (s : En) (f : α → En → Out β) : (Out.ok a s).bind f = f a s := rfl
@[simp] theorem Out.bind_exc {α β : Type} (x : Xc) (s : En) (f : α → En → Out β) : (Out.exc x s : Out α).bind f = .exc x s := rfl
@[simp] theorem Out.bind_stuck {α β : Type} (f : α → En → Out β) : (Out.stuck : Out α).bind f = .stuck := rfl
/-- what a call comes to: its value, its parameters' objects behind it -/
inductive COut where
  | ok (r : Vl) (outs : List Slot)
  | exc (x : Xc) (outs : List Slot)
  | stuck

/-! ### data -/
def rdv (s : En) : Vl → Option PyData
  | .imm d => some d
  | .fresh d => some d
  | .vr i => match s[i]? with
    | some (some x) => some x.dat
    | _ => none
/-- frozen -/
def fzv (s : En) : Vl → Out PyData
  | .imm d => .ok d s
  | .fresh d => .ok d s
  | .vr i => match s[i]? with
    | some (some (.imm d)) => .ok d s
    | some (some (.own d)) => .ok d (s.set i (some (.imm d)))
    | _ => .stuck
def ofO (s : En) : Option Vl → Out Vl
  | some v => .ok v s
  | none => .stuck
def ofV {α : Type} (s : En) : Option α → Out α
  | some v => .ok v s
  | none => .stuck

def mulOk (i j : Int) : Bool := decide ((-(2 ^ 64) < i ∧ i < 2 ^ 64) ∨ (-(2 ^ 64) < j ∧ j < 2 ^ 64)) || decide (i.natAbs.log2 + j.natAbs.log2 < 1000000)
def opBin : Bo → PyData → PyData → Option Vl
  | .add, .int i, .int j => some (.imm (.int (i + j)))
  | .add, .str x, .str y => if x.length + y.length ≤ sizeLine then some (.imm (.str (x ++ y))) else none
  | .add, .list x, .list y => if x.length + y.length ≤ sizeLine then some (.fresh (.list (x ++ y))) else none
  | .add, .tuple x, .tuple y => if x.length + y.length ≤ sizeLine ∧ x.isEmpty = false ∧ y.isEmpty = false then some (.imm (.tuple (x ++ y))) else none
  | .sub, .int i, .int j => some (.imm (.int (i - j)))
  | .mul, .int i, .int j => if mulOk i j = true then some (.imm (.int (i * j))) else none
  | .mul, .str x, .int j => if 0 ≤ j ∧ j ≤ 1000 ∧ x.length * j.toNat ≤ sizeLine then some (.imm (.str ⟨(List.replicate j.toNat x.cps.toList).flatten.toArray⟩)) else none
  | .fdiv, .int i, .int j => if 0 < j ∧ j.natAbs.log2 < 9000 then some (.imm (.int (i / j))) else none
  | .md, .int i, .int j => if 0 < j then some (.imm (.int (i % j))) else none
  | .pow, .int i, .int j => if 0 ≤ j ∧ (Builtin.Int.intBits i : Int) * j ≤ 2 ^ 27 then some (.imm (.int (i ^ j.toNat))) else none
  | .shl, .int i, .int j => if 0 ≤ j ∧ (Builtin.Int.intBits i : Int) + j ≤ 2 ^ 27 then some (.imm (.int (i * 2 ^ j.toNat))) else none
  | .shr, .int i, .int j => if 0 ≤ j then some (.imm (.int (i / 2 ^ j.toNat))) else none
  | .band, .int i, .int j => some (.imm (.int (Builtin.bitAnd i j)))
  | .bor, .int i, .int j => some (.imm (.int (Builtin.bitOr i j)))
  | .bxor, .int i, .int j => some (.imm (.int (Builtin.bitXor i j)))
  | _, _, _ => none

def scalD : PyData → Bool
  | .none => true | .bool _ => true | .int _ => true | .str _ => true | _ => false
/-- both are scalars, no truth beside a number -/
def scal2 : PyData → PyData → Bool
  | .bool _, .int _ => false
  | .int _, .bool _ => false
  | a, b => scalD a && scalD b
def eqD (a b : PyData) : Option Bool := if (scal2 a b || (SeqAt.shaped a && SeqAt.shaped b)) = true then some (PyData.eqv a b) else none
def flatD : PyData → Bool := scalD
/-- a key (an int, a text) is the same -/
def keyEq : PyData → PyData → Bool
  | .int i, .int j => decide (i = j)
  | .str i, .str j => decide (i = j)
  | _, _ => false
def isKey : PyData → Bool
  | .int _ => true
  | .str _ => true
  | _ => false
def lookD (kvs : List (PyData × PyData)) (k : PyData) : Option PyData := (kvs.find? fun p => keyEq p.1 k).map (·.2)
/-- no key twice -/
def keysApart : List (PyData × PyData) → Bool
  | [] => true
  | p :: r => !(r.any fun q => keyEq q.1 p.1) && keysApart r
def strIn (x z : Str) : Bool := if x.cps.size = 1 then decide (x.cps.getD 0 0 ∈ z.cps.toList) else !(Builtin.Str.occurrences z x 0 z.length 1).isEmpty
def inD (x : PyData) : PyData → Option Bool
  | .str z => match x with
    | .str y => some (strIn y z)
    | _ => none
  | .list ds => if (flatD x && ds.all flatD || (SeqAt.shaped x && SeqAt.shaped (.list ds))) = true then some (ds.any fun z => PyData.eqv z x) else none
  | .tuple ds => if (flatD x && ds.all flatD) = true then some (ds.any fun z => PyData.eqv z x) else none
  | .dict kvs => if isKey x = true then some (lookD kvs x).isSome else none
  | _ => none
def isD : PyData → PyData → Option Bool
  | .none, .none => some true
  | _, .none => some false
  | .bool a, .bool b => some (decide (a = b))
  | _, .bool _ => some false
  | _, _ => none
def ints? : List PyData → Option (List Int)
  | [] => some []
  | .int i :: r => (ints? r).map (i :: ·)
  | _ => none
def bools? : List PyData → Option (List Bool)
  | [] => some []
  | .bool i :: r => (bools? r).map (i :: ·)
  | _ => none
def strs? : List PyData → Option (List Str)
  | [] => some []
  | .str i :: r => (strs? r).map (i :: ·)
  | _ => none
def ltD : PyData → PyData → Option Bool
  | .int i, .int j => some (decide (i < j))
  | .str x, .str y => some (decide (x.cps.toList < y.cps.toList))
  | _, _ => none
def leD : PyData → PyData → Option Bool
  | .int i, .int j => some (decide (i ≤ j))
  | .str x, .str y => some (!decide (y.cps.toList < x.cps.toList))
  | _, _ => none
def opCmp : Co → PyData → PyData → Option Bool
  | .eq, a, b => eqD a b
  | .ne, a, b => (eqD a b).map (!·)
  | .lt, a, b => ltD a b
  | .le, a, b => leD a b
  | .gt, a, b => ltD b a
  | .ge, a, b => leD b a
  | .inn, a, b => inD a b
  | .nin, a, b => (inD a b).map (!·)
  | .is, a, b => isD a b
  | .isn, a, b => (isD a b).map (!·)
def truD : PyData → Option Bool
  | .none => some false
  | .bool b => some b
  | .int i => some (i != 0)
  | .str x => if x.length ≤ sizeLine then some ((x.length : Int) != 0) else none
  | .list ds => some (!ds.isEmpty)
  | .tuple ds => some (!ds.isEmpty)
  | .dict kvs => some (!kvs.isEmpty)
/-- isinstance; T: 0 int, 1 bool, 2 str, 3 list, 4 tuple, 5 dict -/
def isiD (T : Nat) : PyData → Bool
  | .none => false
  | .bool _ => T == 0 || T == 1
  | .int _ => T == 0
  | .str _ => T == 2
  | .list _ => T == 3
  | .tuple _ => T == 4
  | .dict _ => T == 5
def cutD {α : Type} (xs : List α) (lo hi : Option Int) : List α := (xs.drop (HT.sIx xs.length 0 lo)).take (HT.sIx xs.length xs.length hi - HT.sIx xs.length 0 lo)
def sliD (d : PyData) (lo hi : Option Int) : Option Vl :=
  match d with
  | .list ds => some (.fresh (.list (cutD ds lo hi)))
  | .tuple ds => if HT.sIx ds.length 0 lo = 0 ∧ HT.sIx ds.length ds.length hi = ds.length then none else some (.imm (.tuple (cutD ds lo hi)))
  | .str z => if z.length ≤ sizeLine then some (.imm (.str (cutS z lo hi))) else none
  | _ => none
def slrD : PyData → Option Vl
  | .list ds => some (.fresh (.list ds.reverse))
  | _ => none
def subD : PyData → PyData → Option PyData
  | .list ds, .int i => atI ds i
  | .tuple ds, .int i => atI ds i
  | .str z, .int i => if z.length ≤ sizeLine then (atI z.cps.toList i).map fun c => .str ⟨#[c]⟩ else none
  | .dict kvs, k => if isKey k = true then lookD kvs k else none
  | _, _ => none
def lenD : PyData → Option Int
  | .str z => if z.length ≤ sizeLine then some z.length else none
  | .list ds => some ds.length
  | .tuple ds => some ds.length
  | .dict ds => some ds.length
  | _ => none
def maxL : List Int → Option Int
  | [] => none
  | x :: r => some (r.foldl (fun m y => if y > m then y else m) x)
def minL : List Int → Option Int
  | [] => none
  | x :: r => some (r.foldl (fun m y => if y < m then y else m) x)
/-- ascending order by insertion -/
def insI (x : Int) : List Int → List Int
  | [] => [x]
  | y :: r => if x ≤ y then x :: y :: r else y :: insI x r
def sortI : List Int → List Int
  | [] => []
  | x :: r => insI x (sortI r)
def seqOf : PyData → Option (List PyData)
  | .list ds => some ds
  | .tuple ds => some ds
  | _ => none
def chars (z : Str) : List PyData := z.cps.toList.map fun c => .str ⟨#[c]⟩
def opBi : Bi → List PyData → Option Vl
  | .len, [d] => (lenD d).map fun n => .imm (.int n)
  | .abs, [.int i] => some (.imm (.int (if i < 0 then -i else i)))
  | .max, [.int i, .int j] => some (.imm (.int (if j > i then j else i)))
  | .min, [.int i, .int j] => some (.imm (.int (if j < i then j else i)))
  | .max, [.list ds] => (ints? ds).bind fun ns => (maxL ns).map fun n => .imm (.int n)
  | .min, [.list ds] => (ints? ds).bind fun ns => (minL ns).map fun n => .imm (.int n)
  | .int, [.int i] => some (.imm (.int i))
  | .int, [.bool b] => some (.imm (.int (if b then 1 else 0)))
  | .list, [.list ds] => some (.fresh (.list ds))
  | .list, [.tuple ds] => some (.fresh (.list ds))
  | .list, [.str z] => if z.length ≤ sizeLine then some (.fresh (.list (chars z))) else none
  | .tuple, [.list ds] => some (.imm (.tuple ds))
  | .tuple, [.tuple ds] => some (.imm (.tuple ds))
  | .sum, [.list ds] => (ints? ds).map fun ns => .imm (.int ns.sum)
  | .sorted, [.list ds] => (ints? ds).map fun ns => .fresh (.list ((sortI ns).map .int))
  | .any, [.list ds] => (bools? ds).map fun ns => .imm (.bool (ns.any id))
  | .all, [.list ds] => (bools? ds).map fun ns => .imm (.bool (ns.all id))
  | .repr, [d] => if d.showable = true ∧ d.depth ≤ 60 ∧ d.shown.length ≤ sizeLine then some (.imm (.str d.shown)) else none
  | _, _ => none
def opMe : Me → PyData → List PyData → Option Vl
  | .join, .str a, [.list ds] => (strs? ds).bind fun ys => if (ys.map (·.length)).sum + ys.length * a.length ≤ 16777216 then some (.imm (.str (Txt.join a ys))) else none
  | .bits, .int i, [] => some (.imm (.int (Builtin.Int.intBits i : Nat)))
  | _, _, _ => none

/-- the receiver's kind -/
def meT : Me → PyData → Bool
  | .join, .str _ => true
  | .bits, .int _ => true
  | .index, .list _ => true
  | .count, .list _ => true
  | _, _ => false

mutual
def bindT : Tg → PyData → En → Option En
  | .v i, d, s => some (s.set i (some (.imm d)))
  | .t ts, d, s => match d with
    | .tuple ds => bindTs ts ds s
    | .list ds => bindTs ts ds s
    | _ => none
def bindTs : Tgs → List PyData → En → Option En
  | .nil, [], s => some s
  | .nil, _ :: _, _ => none
  | .cons _ _, [], _ => none
  | .cons t r, d :: ds, s => match bindT t d s with
    | some s1 => bindTs r ds s1
    | none => none
end

/-! ### calls -/
def slotOf (s : En) (m : Bool) : Vl → Option Slot
  | .imm d => some (.imm d)
  | .fresh d => some (.imm d)
  | .vr i => match s[i]? with
    | some (some (.imm d)) => some (.imm d)
    | some (some (.own d)) => some (if m then .own d else .bor d)
    | some (some (.lok d)) => some (.bor d)
    | some (some (.bor d)) => some (.bor d)
    | _ => none
def slotsOf (s : En) : List Bool → List Vl → Option (List Slot)
  | _, [] => some []
  | ms, v :: vs => match slotOf s (ms.headD false) v, slotsOf s ms.tail vs with
    | some a, some r => some (a :: r)
    | _, _ => none
def vrOf : Vl → Option Nat
  | .vr i => some i
  | _ => none
/-- an object that the callee may change is handed in once -/
def apart : List Bool → List Vl → Bool
  | _, [] => true
  | ms, v :: vs => (match v with
    | .vr i => !(vs.zip (ms.tail ++ List.replicate vs.length false)).any fun p => decide (vrOf p.1 = some i) && (ms.headD false || p.2)
    | _ => true) && apart ms.tail vs
/-- what the callee left of the objects that it could change -/
def back : List Bool → List Vl → List Slot → En → Option En
  | _, [], _, s => some s
  | ms, .vr i :: vs, o :: os, s => match s[i]? with
    | some (some (.own _)) => if ms.headD false = true then (match o with
        | .own d => back ms.tail vs os (s.set i (some (.own d)))
        | .imm d => back ms.tail vs os (s.set i (some (.imm d)))
        | _ => none) else back ms.tail vs os s
    | _ => back ms.tail vs os s
  | ms, _ :: vs, _ :: os, s => back ms.tail vs os s
  | _, _ :: _, [], _ => none
def place {α : Type} (src : List (Option Nat)) (l : List α) (d : α) : List α := src.map fun o => match o with
  | some i => l.getD i d
  | none => d
abbrev CF := Nat → List Slot → COut
def Vl.noVr : Vl → Bool
  | .vr _ => false
  | _ => true
def doCall (F : CF) (modes : Nat → List Bool) (f : Nat) (vs : List Vl) (s : En) : Out Vl :=
  if apart (modes f) vs = true then match slotsOf s (modes f) vs with
    | some as => match F f as with
      | .ok r outs => match back (modes f) vs outs s with
        | some s' => if r.noVr = true then .ok r s' else .stuck
        | none => .stuck
      | .exc x outs => match back (modes f) vs outs s with
        | some s' => .exc x s'
        | none => .stuck
      | .stuck => .stuck
    | none => .stuck
  else .stuck

/-! ### loops -/
def mapI (f : Nat → Option Slot → Option Slot) : Nat → En → En
  | _, [] => []
  | k, x :: r => f k x :: mapI f (k + 1) r
/-- the places of one's own objects that are walked -/
def lokI (s : En) : List Vl → List Nat
  | [] => []
  | .vr i :: r => match s[i]? with
    | some (some (.own _)) => i :: lokI s r
    | _ => lokI s r
  | _ :: r => lokI s r
def lockX (L : List Nat) (i : Nat) : Option Slot → Option Slot
  | some (.own d) => if L.contains i then some (.lok d) else some (.own d)
  | x => x
def unlockX (L : List Nat) (i : Nat) : Option Slot → Option Slot
  | some (.lok d) => if L.contains i then some (.own d) else some (.lok d)
  | x => x
def locks (s : En) (L : List Nat) : En := mapI (lockX L) 0 s
def unlocks (s : En) (L : List Nat) : En := mapI (unlockX L) 0 s
def wipeE (s : En) (own : List Nat) : En := mapI (fun i x => if own.contains i then none else x) 0 s
/-- s with the slots of own as in s0 -/
def restE (s0 s : En) (own : List Nat) : En := mapI (fun i x => if own.contains i then s0.getD i none else x) 0 s
def quietE (s : En) (own : List Nat) : Bool := own.all fun i => match s[i]? with
  | some (some (.imm _)) => true
  | some (some _) => false
  | _ => true
def lcLoop (bd : PyData → En → Option En) (c : En → Out Bool) (elt : En → Out PyData) (own : List Nat) : List PyData → List PyData → En → Out (List PyData)
  | [], acc, s => .ok acc s
  | x :: xs, acc, s => match bd x (wipeE s own) with
    | some s1 => (c s1).bind fun b s2 => if b = true then (elt s2).bind fun d s3 => lcLoop bd c elt own xs (acc ++ [d]) s3 else lcLoop bd c elt own xs acc s2
    | none => .stuck
def noX {α : Type} : Out α → Out α
  | .ok a s => .ok a s
  | _ => .stuck
inductive Fl where
  | nx | rt (v : Vl) | bk | ct
def forLoop (bd : PyData → En → Option En) (body : En → Out Fl) : List PyData → En → Out Fl
  | [], s => .ok .nx s
  | x :: xs, s => match bd x s with
    | some s1 => (body s1).bind fun f s2 => match f with
      | .nx => forLoop bd body xs s2
      | .ct => forLoop bd body xs s2
      | .bk => .ok .nx s2
      | .rt v => .ok (.rt v) s2
    | none => .stuck
def unlO (L : List Nat) : Out Fl → Out Fl
  | .ok f s => .ok f (unlocks s L)
  | .exc x s => .exc x (unlocks s L)
  | .stuck => .stuck
def whlLoop (c : En → Out Bool) (body : En → Out Fl) : Nat → En → Out Fl
  | 0, _ => .stuck
  | n + 1, s => (c s).bind fun b s1 => if b = true then (body s1).bind fun f s2 => match f with
      | .nx => whlLoop c body n s2
      | .ct => whlLoop c body n s2
      | .bk => .ok .nx s2
      | .rt v => .ok (.rt v) s2
    else .ok .nx s1
def rangeD (lo hi : Int) : List PyData := (List.range (hi - lo).toNat).map fun i => .int (lo + (i : Nat))
def enumD (ds : List PyData) : List PyData := (ds.zipIdx).map fun p => .tuple [.int (p.2 : Nat), p.1]
def zipD : List PyData → List PyData → List PyData
  | a :: as, b :: bs => .tuple [a, b] :: zipD as bs
  | _, _ => []
def mapE {α β : Type} (f : α → β) (o : Out α) : Out β := o.bind fun a s => .ok (f a) s
def smallR (i : Int) : Bool := decide (-(2 ^ 62) ≤ i ∧ i < 2 ^ 62)

/-- a list, a tuple is never longer than sizeLine; of a range this is asked -/
def It.isRng : It → Bool
  | .rng1 _ => true
  | .rng2 _ _ => true
  | _ => false
def lenOk (it : It) (ds : List PyData) : Bool := !it.isRng || decide (ds.length ≤ sizeLine)
def setIs : List Nat → List PyData → En → En
  | i :: is, d :: ds, s => setIs is ds (s.set i (some (.imm d)))
  | _, _, s => s
/-- one's own list, dict -/
def isOwn (s : En) (i : Nat) : Bool := match s[i]? with
  | some (some (.own _)) => true
  | _ => false
def isOwnL (s : En) (i : Nat) : Bool := match s[i]? with
  | some (some (.own (.list _))) => true
  | _ => false
/-- a key's value is put in its place, or at the end -/
def putD (kvs : List (PyData × PyData)) (k d : PyData) : List (PyData × PyData) :=
  if (kvs.any fun p => keyEq p.1 k) = true then kvs.map (fun p => if keyEq p.1 k = true then (p.1, d) else p) else kvs ++ [(k, d)]
/-! ### the evaluator -/
def tests (ev : En → Out Vl) (s : En) : Out Bool := (ev s).bind fun x s1 => ofV s1 ((rdv s1 x).bind truD)
def frz (ev : En → Out Vl) (s : En) : Out PyData := (ev s).bind fun x s1 => fzv s1 x
def data (ev : En → Out Vl) (s : En) : Out PyData := (ev s).bind fun x s1 => ofV s1 (rdv s1 x)
def rdAll (s : En) : List Vl → Option (List PyData)
  | [] => some []
  | v :: r => match rdv s v, rdAll s r with
    | some d, some ds => some (d :: ds)
    | _, _ => none
/-- which def, which of the written values is which parameter's (none: the default None) -/
structure Shape where
  f : Nat
  src : List (Option Nat)
structure Cf where
  modes : Nat → List Bool
  wf : Nat
  gc : Nat → PyData
  shapes : Nat → Shape
section
variable (G : Cf) (F : CF)
mutual
def evE : E → En → Out Vl
  | .var i, s => match s[i]? with
    | some (some (.imm d)) => .ok (.imm d) s
    | some (some _) => .ok (.vr i) s
    | _ => .stuck
  | .cn c, s => .ok (.imm c) s
  | .glo k, s => .ok (.imm (G.gc k)) s
  | .bin op a b, s => (evE a s).bind fun x s1 => (evE b s1).bind fun y s2 => ofO s2 ((rdv s2 x).bind fun d => (rdv s2 y).bind fun e => opBin op d e)
  | .neg a, s => (evE a s).bind fun x s1 => match rdv s1 x with
    | some (.int i) => .ok (.imm (.int (-i))) s1
    | _ => .stuck
  | .nt a, s => (tests (evE a) s).bind fun b s1 => .ok (.imm (.bool (!b))) s1
  | .and a b, s => (evE a s).bind fun x s1 => match (rdv s1 x).bind truD with
    | some true => evE b s1
    | some false => .ok x s1
    | none => .stuck
  | .or a b, s => (evE a s).bind fun x s1 => match (rdv s1 x).bind truD with
    | some false => evE b s1
    | some true => .ok x s1
    | none => .stuck
  | .cmp op a b, s => (evE a s).bind fun x s1 => (evE b s1).bind fun y s2 => ofO s2 ((rdv s2 x).bind fun d => (rdv s2 y).bind fun e => (opCmp op d e).map fun k => .imm (.bool k))
  | .cmp2 op op2 a b c, s => (evE a s).bind fun x s1 => (evE b s1).bind fun y s2 => match (rdv s2 x).bind fun d => (rdv s2 y).bind fun e => opCmp op d e with
    | some true => (evE c s2).bind fun z s3 => ofO s3 ((rdv s3 y).bind fun d => (rdv s3 z).bind fun e => (opCmp op2 d e).map fun k => .imm (.bool k))
    | some false => .ok (.imm (.bool false)) s2
    | none => .stuck
  | .ife c a b, s => (tests (evE c) s).bind fun k s1 => if k = true then evE a s1 else evE b s1
  | .callk k es ks, s => (evEs es s).bind fun vs s1 => (evEs ks s1).bind fun ws s2 => doCall F G.modes (G.shapes k).f (place (G.shapes k).src (vs ++ ws) (.imm .none)) s2
  | .bi b es, s => (evEs es s).bind fun vs s1 => ofO s1 ((rdAll s1 vs).bind fun ds => opBi b ds)
  | .isi a Ts, s => (evE a s).bind fun x s1 => ofO s1 ((rdv s1 x).map fun d => .imm (.bool (Ts.any fun T => isiD T d)))
  | .me m o es, s => (evE o s).bind fun x s1 => if (rdv s1 x).any (meT m) = true then (evEs es s1).bind fun vs s2 => ofO s2 ((rdv s2 x).bind fun d => (rdAll s2 vs).bind fun ds => opMe m d ds) else .stuck
  | .sub a i, s => (evE a s).bind fun x s1 => (evE i s1).bind fun y s2 => ofO s2 ((rdv s2 x).bind fun d => (rdv s2 y).bind fun e => (subD d e).map .imm)
  | .sli a lo hi, s => (evE a s).bind fun x s1 => (evO lo s1).bind fun l s2 => (evO hi s2).bind fun h s3 => ofO s3 ((rdv s3 x).bind fun d => sliD d l h)
  | .slr a, s => (evE a s).bind fun x s1 => ofO s1 ((rdv s1 x).bind slrD)
  | .tup es, s => (evFs es s).bind fun ds s1 => .ok (.imm (.tuple ds)) s1
  | .lst es, s => (evFs es s).bind fun ds s1 => .ok (.fresh (.list ds)) s1
  | .dic kv, s => (evD kv s).bind fun ps s1 => if (ps.all (fun p => isKey p.1) && keysApart ps) = true then .ok (.fresh (.dict ps)) s1 else .stuck
  | .lc elt tg it c own, s => (evI it s).bind fun p s1 => if (quietE s1 own && lenOk it p.1) = true then (noX (lcLoop (bindT tg) (evT c) (frz (evE elt)) own p.1 [] (locks s1 (lokI s1 p.2)))).bind fun ds s2 => .ok (.fresh (.list ds)) (unlocks (restE s1 s2 own) (lokI s1 p.2)) else .stuck
  | .fz a, s => (frz (evE a) s).bind fun d s1 => .ok (.imm d) s1
def evEs : Es → En → Out (List Vl)
  | .nil, s => .ok [] s
  | .cons e r, s => (evE e s).bind fun x s1 => (evEs r s1).bind fun xs s2 => .ok (x :: xs) s2
def evFs : Es → En → Out (List PyData)
  | .nil, s => .ok [] s
  | .cons e r, s => (frz (evE e) s).bind fun x s1 => (evFs r s1).bind fun xs s2 => .ok (x :: xs) s2
def evD : Es → En → Out (List (PyData × PyData))
  | .nil, s => .ok [] s
  | .cons k (.cons e r), s => (frz (evE k) s).bind fun x s1 => (frz (evE e) s1).bind fun y s2 => (evD r s2).bind fun r s3 => .ok ((x, y) :: r) s3
  | .cons _ .nil, _ => .stuck
def evO : Oe → En → Out (Option Int)
  | .no, s => .ok none s
  | .so e, s => (evE e s).bind fun x s1 => match rdv s1 x with
    | some (.int i) => .ok (some i) s1
    | _ => .stuck
def evT : Oe → En → Out Bool
  | .no, s => .ok true s
  | .so e, s => tests (evE e) s
def evI : It → En → Out (List PyData × List Vl)
  | .seq e, s => (evE e s).bind fun x s1 => match rdv s1 x with
    | some (.list ds) => .ok (ds, [x]) s1
    | some (.tuple ds) => .ok (ds, [x]) s1
    | some (.str z) => if z.length ≤ sizeLine then .ok (chars z, []) s1 else .stuck
    | _ => .stuck
  | .rng1 a, s => (evE a s).bind fun x s1 => match rdv s1 x with
    | some (.int i) => if smallR i = true then .ok (rangeD 0 i, []) s1 else .stuck
    | _ => .stuck
  | .rng2 a b, s => (evE a s).bind fun x s1 => (evE b s1).bind fun y s2 => match rdv s2 x, rdv s2 y with
    | some (.int i), some (.int j) => if (smallR i && smallR j) = true then .ok (rangeD i j, []) s2 else .stuck
    | _, _ => .stuck
  | .enu e, s => (evE e s).bind fun x s1 => match rdv s1 x with
    | some (.list ds) => .ok (enumD ds, [x]) s1
    | _ => .stuck
  | .zip a b, s => (evE a s).bind fun x s1 => (evE b s1).bind fun y s2 => match rdv s2 x, rdv s2 y with
    | some (.list ds), some (.list es) => .ok (zipD ds es, [x, y]) s2
    | some (.tuple ds), some (.tuple es) => .ok (zipD ds es, [x, y]) s2
    | _, _ => .stuck
end
mutual
def evS : S → En → Out Fl
  | .asg (.v i) e, s => (evE G F e s).bind fun x s1 => match x with
    | .fresh d => .ok .nx (s1.set i (some (.own d)))
    | x => (fzv s1 x).bind fun d s2 => .ok .nx (s2.set i (some (.imm d)))
  | .asg (.t ts) e, s => (frz (evE G F e) s).bind fun d s1 => ofV s1 (bindT (.t ts) d s1) |>.bind fun s2 _ => .ok .nx s2
  | .par is es, s => (evFs G F es s).bind fun ds s1 => if ds.length = is.length then .ok .nx (setIs is ds s1) else .stuck
  | .setI i k e, s => (frz (evE G F e) s).bind fun d s1 => if isOwn s1 i = true then (evE G F k s1).bind fun y s2 => match s2[i]?, rdv s2 y with
      | some (some (.own (.list ds))), some (.int n) => match ixN ds.length n with
        | some j => .ok .nx (s2.set i (some (.own (.list (ds.set j d)))))
        | none => .stuck
      | some (some (.own (.dict kvs))), some key => if isKey key = true ∧ kvs.length < sizeLine then .ok .nx (s2.set i (some (.own (.dict (putD kvs key d))))) else .stuck
      | _, _ => .stuck
    else .stuck
  | .app i e, s => if isOwnL s i = true then (frz (evE G F e) s).bind fun d s1 => match s1[i]? with
      | some (some (.own (.list ds))) => if ds.length < sizeLine then .ok .nx (s1.set i (some (.own (.list (ds ++ [d]))))) else .stuck
      | _ => .stuck
    else .stuck
  | .ret e, s => (evE G F e s).bind fun x s1 => .ok (.rt x) s1
  | .retN, s => .ok (.rt (.imm .none)) s
  | .ex e, s => (evE G F e s).bind fun _ s1 => .ok .nx s1
  | .ife c a b, s => (tests (evE G F c) s).bind fun k s1 => if k = true then evSs a s1 else evSs b s1
  | .for tg it b, s => (evI G F it s).bind fun p s1 => unlO (lokI s1 p.2) (forLoop (bindT tg) (evSs b) p.1 (locks s1 (lokI s1 p.2)))
  | .whl c b, s => whlLoop (tests (evE G F c)) (evSs b) G.wf s
  | .pass, s => .ok .nx s
  | .brk, s => .ok .bk s
  | .cont, s => .ok .ct s
def evSs : Ss → En → Out Fl
  | .nil, s => .ok .nx s
  | .cons x r, s => (evS x s).bind fun f s1 => match f with
    | .nx => evSs r s1
    | f => .ok f s1
end
end

/-- a def: how many names, how many parameters, which of these may be changed, its body -/
structure Fn where
  nn : Nat
  np : Nat
  modes : List Bool
  body : Ss
def keepsOff : Slot → Bool
  | .imm _ => true
  | .bor _ => true
  | _ => false
def isTupS : Slot → Bool
  | .imm (.tuple _) => true
  | _ => false
def headSlot : En → Option Slot
  | some x :: _ => if isTupS x = true then none else some x
  | _ => none
/-- what became of the parameters' objects -/
def outsOf (ms : List Bool) (as : List Slot) (s : En) : Option (List Slot) :=
  match as with
  | [] => some []
  | a :: r => match (if ms.headD false = true then headSlot s else if keepsOff a = true then some a else none), outsOf ms.tail r s.tail with
    | some x, some xs => some (x :: xs)
    | _, _ => none
/-- the value that is handed back: an object of one's own is the caller's, a parameter's is frozen -/
def retV (np : Nat) (s : En) : Vl → Out Vl
  | .imm d => .ok (.imm d) s
  | .fresh d => .ok (.fresh d) s
  | .vr i => match s[i]? with
    | some (some (.own d)) => if i < np then .ok (.imm d) (s.set i (some (.imm d))) else .ok (.fresh d) (s.set i none)
    | some (some (.imm d)) => .ok (.imm d) s
    | _ => .stuck
def endOf : Fl → Option Vl
  | .nx => some (.imm .none)
  | .rt v => some v
  | _ => none
def finish (fn : Fn) (as : List Slot) : Out Fl → COut
  | .ok f s => match endOf f with
    | some v => match retV fn.np s v with
      | .ok r s' => match outsOf fn.modes as s' with
        | some outs => .ok r outs
        | none => .stuck
      | _ => .stuck
    | none => .stuck
  | .exc x s => match outsOf fn.modes as s with
    | some outs => .exc x outs
    | none => .stuck
  | .stuck => .stuck
def runFn (G : Cf) (fn : Fn) (F : CF) (as : List Slot) : COut :=
  if as.length = fn.np then finish fn as (evSs G F fn.body (as.map some ++ List.replicate (fn.nn - fn.np) none)) else .stuck
def callN (G : Cf) (T : Nat → Option Fn) : Nat → CF
  | 0 => fun _ _ => .stuck
  | n + 1 => fun f as => match T f with
    | some fn => runFn G fn (callN G T n) as
    | none => .stuck
end PV

namespace PV
open PySem PySem.Spec PyProof.Rows L2

theorem rdv_vr (s : En) (i : Nat) : rdv s (.vr i) = match s[i]? with
    | some (some x) => some x.dat
    | _ => none := rfl
theorem fzv_vr (s : En) (i : Nat) : fzv s (.vr i) = match s[i]? with
    | some (some (.imm d)) => .ok d s
    | some (some (.own d)) => .ok d (s.set i (some (.imm d)))
    | _ => .stuck := rfl
theorem rdv_some {s : En} {i : Nat} {d : PyData} (h : rdv s (.vr i) = some d) : ∃ x, s[i]? = some (some x) ∧ x.dat = d := by
  rw [rdv_vr] at h
  cases q : s[i]? with
  | none => rw [q] at h; cases h
  | some o =>
    rw [q] at h
    cases o with
    | none => cases h
    | some x => exact ⟨x, rfl, Option.some.inj h⟩
/-- reads as, the items frozen -/
def DR1 (K : PySem.W.Frag) (FH H : Hp) : PyData → V → Prop
  | .list ds, v => ∃ a xs, v = .ref a ∧ Rd H a (.lst xs) ∧ DRs K FH ds xs
  | .tuple ds, v => ∃ a xs, v = .ref a ∧ SqT K FH a xs ∧ DRs K FH ds xs
  | .dict kvs, v => ∃ a ks, v = .ref a ∧ Rd H a (.dK ks) ∧ DRk K FH kvs ks
  | .none, v => v = .non
  | .bool b, v => v = .bl b
  | .int i, v => v = .int i
  | .str x, v => v = .str x
theorem DR.one {K : PySem.W.Frag} {FH H : Hp} (sub : Same FH H) : ∀ {d : PyData} {v : V}, DR K FH d v → DR1 K FH H d v
  | .none, v, r => by unfold DR at r; exact r
  | .bool _, v, r => by unfold DR at r; exact r
  | .int _, v, r => by unfold DR at r; exact r
  | .str _, v, r => by unfold DR at r; exact r
  | .list _, v, r => by unfold DR at r; obtain ⟨a, xs, e, s, t⟩ := r; exact ⟨a, xs, e, same_rd sub s, t⟩
  | .tuple _, v, r => by unfold DR at r; exact r
  | .dict _, v, r => by unfold DR at r; obtain ⟨a, xs, e, s, t⟩ := r; exact ⟨a, xs, e, same_rd sub s, t⟩
theorem DR1.full {K : PySem.W.Frag} {FH H : Hp} (sub : Same FH H) : ∀ {d : PyData} {v : V}, DR1 K FH H d v → DR K H d v
  | .none, v, r => by unfold DR; exact r
  | .bool _, v, r => by unfold DR; exact r
  | .int _, v, r => by unfold DR; exact r
  | .str _, v, r => by unfold DR; exact r
  | .list _, v, r => by unfold DR; obtain ⟨a, xs, e, s, t⟩ := r; exact ⟨a, xs, e, s, DRs.mono sub _ _ t⟩
  | .tuple _, v, r => by unfold DR; obtain ⟨a, xs, e, s, t⟩ := r; exact ⟨a, xs, e, same_sqt sub s, DRs.mono sub _ _ t⟩
  | .dict _, v, r => by unfold DR; obtain ⟨a, xs, e, s, t⟩ := r; exact ⟨a, xs, e, s, DRk.mono sub _ _ t⟩
theorem Top.one {K : PySem.W.Frag} {FH H : Hp} {d : PyData} {a : Addr} (t : Top K FH H d a) : DR1 K FH H d (.ref a) := by
  cases d with
  | list ds => obtain ⟨xs, h, r⟩ := t; exact ⟨a, xs, rfl, .inl h, r⟩
  | dict kvs => obtain ⟨xs, h, r⟩ := t; exact ⟨a, xs, rfl, .inl h, r⟩
  | _ => exact t.elim
theorem SlR.one {K : PySem.W.Frag} {FH H : Hp} (sub : Same FH H) {s : Slot} {v : V} (h : SlR K FH H s v) : DR1 K FH H s.dat v := by
  cases s with
  | imm d => exact DR.one sub h
  | own d => obtain ⟨a, e, n, t⟩ := h; subst e; exact t.one
  | lok d => obtain ⟨a, e, n, t⟩ := h; subst e; exact t.one
  | bor d => obtain ⟨a, e, n, t⟩ := h; subst e; exact t.one

/-- a result's value: frozen; new, nobody else's; a slot's -/
def ValR (K : PySem.W.Frag) (FH : Hp) (e : En) (σ : Sto) (Hs H : Hp) (v : V) : Vl → Prop
  | .imm d => DR K FH d v
  | .fresh d => ∃ p, v = .ref p ∧ FH p = none ∧ Hs p = none ∧ Top K FH H d p ∧ ∀ (j : Nat) (s : Slot), e[j]? = some (some s) → s.mine = true → σ[j]? ≠ some (some (V.ref p))
  | .vr i => σ[i]? = some (some v)
/-- a value that may wait -/
def AgR (K : PySem.W.Frag) (FH : Hp) (σ : Sto) (v : V) : Vl → Prop
  | .imm d => DR K FH d v
  | .fresh d => DR K FH d v
  | .vr i => σ[i]? = some (some v)
structure After (K : PySem.W.Frag) (FH : Hp) (e : En) (σ : Sto) (H : Hp) (FH' : Hp) (e' : En) (H' : Hp) : Prop where
  rl : Rl K FH' e' σ H'
  st : Stp FH e σ H FH' e' σ H'
theorem After.refl {K : PySem.W.Frag} {FH H : Hp} {e : En} {σ : Sto} (R : Rl K FH e σ H) : After K FH e σ H FH e H := ⟨R, .refl ..⟩
theorem After.trans {K : PySem.W.Frag} {FH H FH1 H1 FH2 H2 : Hp} {e e1 e2 : En} {σ : Sto} (x : After K FH e σ H FH1 e1 H1) (y : After K FH1 e1 σ H1 FH2 e2 H2) : After K FH e σ H FH2 e2 H2 :=
  ⟨y.rl, x.st.trans y.st⟩
theorem AgR.mono {K : PySem.W.Frag} {FH FH' : Hp} {σ : Sto} {v : V} (h : Same FH FH') : ∀ {x : Vl}, AgR K FH σ v x → AgR K FH' σ v x
  | .imm _, r => DR.mono h _ _ r
  | .fresh _, r => DR.mono h _ _ r
  | .vr _, r => r
theorem AgR.rd {K : PySem.W.Frag} {FH H : Hp} {e : En} {σ : Sto} (R : Rl K FH e σ H) {v : V} {d : PyData} : ∀ {x : Vl}, AgR K FH σ v x → rdv e x = some d → DR1 K FH H d v
  | .imm _, r, h => by cases h; exact DR.one R.sub r
  | .fresh _, r, h => by cases h; exact DR.one R.sub r
  | .vr i, r, h => by
    obtain ⟨x, hx, e1⟩ := rdv_some h
    obtain ⟨u, hu, q⟩ := R.slot i x hx
    have r' : σ[i]? = some (some v) := r
    rw [r'] at hu; cases hu
    rw [← e1]
    exact q.one R.sub
/-- .. of a result just now -/
theorem ValR.rd {K : PySem.W.Frag} {FH Hs H : Hp} {e : En} {σ : Sto} (R : Rl K FH e σ H) {v : V} {d : PyData} : ∀ {x : Vl}, ValR K FH e σ Hs H v x → rdv e x = some d → DR1 K FH H d v
  | .imm _, r, h => by cases h; exact DR.one R.sub r
  | .fresh _, r, h => by cases h; obtain ⟨p, ev, _, _, t, _⟩ := r; subst ev; exact t.one
  | .vr i, r, h => AgR.rd R (x := .vr i) r h

/-- exceptions: their classes' addresses, their fields' names -/
structure XT where
  cls : Nat → Addr
  names : Nat → List Str
def ExR (K : PySem.W.Frag) (T : XT) (FH H : Hp) (x : Xc) (cls : Value) (d : Option Addr) : Prop :=
  cls = .ref (T.cls x.c) ∧ ∃ dx fs, d = some dx ∧ H dx = some (.xd fs) ∧ fs.map (·.1) = T.names x.c ∧ DRs K FH x.fs (fs.map (·.2))

/-- what is asked of an outcome -/
def Post {α : Type} (K : PySem.W.Frag) (T : XT) (W : WX) (FH : Hp) (s : En) (σ : Sto) (H : Hp) (P : Hp → En → Hp → α → Prop) (o : Out α) : Prop :=
  match o with
  | .ok x s' => ∀ FH' H', After K FH s σ H FH' s' H' → P FH' s' H' x
  | .exc x s' => ∀ FH' H' cls d, After K FH s σ H FH' s' H' → ExR K T FH' H' x cls d → W cls d σ H'
  | .stuck => False
theorem Post.bind {α β : Type} {K : PySem.W.Frag} {T : XT} {W : WX} {FH H : Hp} {s : En} {σ : Sto} {P : Hp → En → Hp → β → Prop} {o : Out α} {f : α → En → Out β} (h : Post K T W FH s σ H P (o.bind f)) :
    Post K T W FH s σ H (fun FH1 s1 H1 x => After K FH s σ H FH1 s1 H1 ∧ Post K T W FH1 s1 σ H1 P (f x s1)) o := by
  cases o with
  | stuck => exact h.elim
  | exc x s' => exact h
  | ok x s1 =>
    intro FH1 H1 A1
    refine ⟨A1, ?_⟩
    rw [Out.bind_ok] at h
    cases q : f x s1 with
    | stuck => rw [q] at h; exact h.elim
    | exc x s' =>
      rw [q] at h
      intro FH2 H2 cls d A2 ex
      exact h FH2 H2 cls d (A1.trans A2) ex
    | ok y s2 =>
      rw [q] at h
      intro FH2 H2 A2
      exact h FH2 H2 (A1.trans A2)
theorem Post.imp {α : Type} {K : PySem.W.Frag} {T : XT} {W : WX} {FH H : Hp} {s : En} {σ : Sto} {P P' : Hp → En → Hp → α → Prop} {o : Out α} (h : Post K T W FH s σ H P o)
    (i : ∀ FH' s' H' x, o = .ok x s' → After K FH s σ H FH' s' H' → P FH' s' H' x → P' FH' s' H' x) : Post K T W FH s σ H P' o := by
  cases o with
  | stuck => exact h.elim
  | exc x s' => exact h
  | ok x s1 => exact fun FH1 H1 A1 => i FH1 s1 H1 x rfl A1 (h FH1 H1 A1)
theorem Post.at {α : Type} {K : PySem.W.Frag} {T : XT} {W : WX} {FH H : Hp} {s s' : En} {σ : Sto} {P : Hp → En → Hp → α → Prop} {x : α} (h : Post K T W FH s σ H P (.ok x s')) {FH' H' : Hp} (A : After K FH s σ H FH' s' H') : P FH' s' H' x := h FH' H' A

/-- what is asked: the evaluator's outcome -/
def tE (K : PySem.W.Frag) (T : XT) (W : WX) (ev : En → Out Vl) : TE := fun σ H Q => ∃ FH s, Rl K FH s σ H ∧ Post K T W FH s σ H (fun FH' s' H' x => ∀ v, ValR K FH' s' σ H H' v x → Q v H') (ev s)
/-- .. the value may wait -/
def tA (K : PySem.W.Frag) (T : XT) (W : WX) (ev : En → Out Vl) : TE := fun σ H Q => ∃ FH s, Rl K FH s σ H ∧ Post K T W FH s σ H (fun FH' s' H' x => ∀ v, AgR K FH' σ v x → Q v H') (ev s)
/-- .. frozen -/
def tF (K : PySem.W.Frag) (T : XT) (W : WX) (ev : En → Out PyData) : TE := fun σ H Q => ∃ FH s, Rl K FH s σ H ∧ Post K T W FH s σ H (fun FH' s' H' x => ∀ v, DR K FH' x v → Q v H') (ev s)
/-- a test -/
def tQ (K : PySem.W.Frag) (T : XT) (W : WX) (ev : En → Out Bool) : TT := fun σ H Q => ∃ FH s, Rl K FH s σ H ∧ Post K T W FH s σ H (fun FH' s' H' b => Q b H') (ev s)
/-- waiting values -/
def AgRs (K : PySem.W.Frag) (FH : Hp) (σ : Sto) : List V → List Vl → Prop
  | [], xs => xs = []
  | v :: vs, xs => ∃ x r, xs = x :: r ∧ AgR K FH σ v x ∧ AgRs K FH σ vs r
def tAs (K : PySem.W.Frag) (T : XT) (W : WX) (ev : En → Out (List Vl)) : TA := fun σ H Q => ∃ FH s, Rl K FH s σ H ∧ Post K T W FH s σ H (fun FH' s' H' xs => ∀ vs, AgRs K FH' σ vs xs → Q vs H') (ev s)
def tFs (K : PySem.W.Frag) (T : XT) (W : WX) (ev : En → Out (List PyData)) : TA := fun σ H Q => ∃ FH s, Rl K FH s σ H ∧ Post K T W FH s σ H (fun FH' s' H' xs => ∀ vs, DRs K FH' xs vs → Q vs H') (ev s)

theorem pe_imp {X : Cx} {e : Expr} {t t' : TE} (h : PE X e t) (i : ∀ σ H Q, t' σ H Q → t σ H Q) : PE X e t' := ⟨fun pins s σ H Q I q => h.run pins s σ H Q I (i σ H Q q)⟩
theorem pt_imp {X : Cx} {e : Expr} {t t' : TT} (h : PT X e t) (i : ∀ σ H Q, t' σ H Q → t σ H Q) : PT X e t' := ⟨fun pins s σ H Q I q => h.run pins s σ H Q I (i σ H Q q)⟩
theorem pa_imp {X : Cx} {es : List Expr} {t t' : TA} (h : PA X es t) (i : ∀ σ H Q, t' σ H Q → t σ H Q) : PA X es t' := ⟨fun pos pins s σ H Q I q => h.run pos pins s σ H Q I (i σ H Q q)⟩
theorem ps_imp {X : Cx} {st : Stmt} {t t' : TS} (h : PS X st t) (i : ∀ D σ H, t' D σ H → t D σ H) : PS X st t' := ⟨fun pins s σ H D I q => h.run pins s σ H D I (i D σ H q)⟩
theorem pss_imp {X : Cx} {st : List Stmt} {t t' : TS} (h : PSs X st t) (i : ∀ D σ H, t' D σ H → t D σ H) : PSs X st t' := ⟨fun pins s σ H D I q => h.run pins s σ H D I (i D σ H q)⟩

section
variable {K : PySem.W.Frag} {T : XT} {W : WX} {FH FH' H H' Hs : Hp} {e e' s s' : En} {σ : Sto} {v : V} {x : Vl} {d : PyData}

/-- a new object that nobody else holds is frozen -/
theorem fresh_fz (R : Rl K FH' e' σ H') (st : Stp FH e σ H FH' e' σ H') {p : Addr} (n : FH' p = none) (np : H p = none) (t : Top K FH' H' d p)
    (ns : ∀ (j : Nat) (s : Slot), e'[j]? = some (some s) → s.mine = true → σ[j]? ≠ some (some (V.ref p))) :
    ∃ o, H' p = some o ∧ After K FH e σ H (upd FH' p o) e' H' ∧ DR K (upd FH' p o) d (.ref p) := by
  obtain ⟨o, ho⟩ := t.ex
  refine ⟨o, ho, ⟨R.freezeAt n ho ns, ?_⟩, t.fz n ho⟩
  refine ⟨fun b u h => ?_, st.keep, st.aloc, fun a h1 h2 h3 => ?_, st.own, st.mn, st.lk⟩
  · have hb := st.fle b u h
    rw [upd_ne (ne_of_none hb n)]; exact hb
  · have hne : a ≠ p := fun z => h2 (by rw [z]; exact np)
    rw [upd_ne hne]; exact st.fnew a h1 h2 h3
theorem post_E_of_A {Q : VK} {o : Out Vl} (h : Post K T W FH s σ H (fun FH' s' H' x => ∀ v, AgR K FH' σ v x → Q v H') o) :
    Post K T W FH s σ H (fun FH' s' H' x => ∀ v, ValR K FH' s' σ H H' v x → Q v H') o := by
  cases o with
  | stuck => exact h.elim
  | exc x s' => exact h
  | ok x s' =>
    intro FH' H' A v r
    cases x with
    | imm d => exact h FH' H' A v r
    | vr i => exact h FH' H' A v r
    | fresh d =>
      obtain ⟨p, ev, n, np, t, ns⟩ := r
      subst ev
      obtain ⟨o, ho, A', dr⟩ := fresh_fz A.rl A.st n np t ns
      exact h _ H' A' _ dr
theorem tE_of_A {ev : En → Out Vl} {σ : Sto} {H : Hp} {Q : VK} (h : tA K T W ev σ H Q) : tE K T W ev σ H Q := by
  obtain ⟨FH, s, R, h⟩ := h
  exact ⟨FH, s, R, post_E_of_A h⟩
/-- a value is frozen, seen from the state ahead of its making -/
theorem post_frz {P : Hp → En → Hp → PyData → Prop} {ev : En → Out Vl} (h : Post K T W FH s σ H P (frz ev s)) :
    Post K T W FH s σ H (fun FH' s' H' x => ∀ v, ValR K FH' s' σ H H' v x → ∃ FH2 s2 d, fzv s' x = .ok d s2 ∧ After K FH s σ H FH2 s2 H' ∧ DR K FH2 d v ∧ P FH2 s2 H' d) (ev s) := by
  unfold frz at h
  cases q : ev s with
  | stuck => rw [q] at h; exact h.elim
  | exc x s' => rw [q] at h; exact h
  | ok x s' =>
    rw [q, Out.bind_ok] at h
    intro FH' H' A v r
    cases x with
    | imm d => exact ⟨FH', s', d, rfl, A, r, h FH' H' A⟩
    | fresh d =>
      obtain ⟨p, ev, n, np, t, ns⟩ := r
      subst ev
      obtain ⟨o, ho, A', dr⟩ := fresh_fz A.rl A.st n np t ns
      exact ⟨_, s', d, rfl, A', dr, h _ H' A'⟩
    | vr i =>
      rw [fzv_vr] at h
      have r' : σ[i]? = some (some v) := r
      cases hi : s'[i]? with
      | none => rw [hi] at h; exact h.elim
      | some o =>
        rw [hi] at h
        cases o with
        | none => exact h.elim
        | some sl =>
          cases sl with
          | imm d =>
            obtain ⟨u, hu, q⟩ := A.rl.slot i _ hi
            rw [r'] at hu; cases hu
            exact ⟨FH', s', d, by rw [fzv_vr, hi], A, q, h FH' H' A⟩
          | own d =>
            obtain ⟨a, o, e1, ho, R2, S2, dr⟩ := A.rl.freeze hi
            rw [r'] at e1; cases e1
            exact ⟨_, _, d, by rw [fzv_vr, hi], A.trans ⟨R2, S2⟩, dr, h _ H' (A.trans ⟨R2, S2⟩)⟩
          | lok d => exact h.elim
          | bor d => exact h.elim
theorem tE_of_F {ev : En → Out Vl} {σ : Sto} {H : Hp} {Q : VK} (h : tF K T W (frz ev) σ H Q) : tE K T W ev σ H Q := by
  obtain ⟨FH, s, R, h⟩ := h
  refine ⟨FH, s, R, (post_frz h).imp fun FH' s' H' x _ A r v rv => ?_⟩
  obtain ⟨FH2, s2, d, _, A2, dr, p⟩ := r v rv
  exact p v dr
/-- .. read just now -/
theorem post_data {P : Hp → En → Hp → PyData → Prop} {ev : En → Out Vl} (h : Post K T W FH s σ H P (data ev s)) :
    Post K T W FH s σ H (fun FH' s' H' x => ∀ v, ValR K FH' s' σ H H' v x → ∃ d, rdv s' x = some d ∧ DR1 K FH' H' d v ∧ P FH' s' H' d) (ev s) := by
  unfold data at h
  refine (h.bind).imp fun FH' s' H' x _ A r v rv => ?_
  obtain ⟨_, r⟩ := r
  cases q : rdv s' x with
  | none => rw [q] at r; exact r.elim
  | some d =>
    rw [q] at r
    exact ⟨d, rfl, rv.rd A.rl q, r FH' H' (.refl A.rl)⟩

/-! ### results of operations by values -/
def ResOk (K : PySem.W.Frag) (FH H : Hp) (x : Vl) (v : V) (H' : Hp) : Prop :=
  match x with
  | .imm c => (H' = H ∧ DR K FH c v) ∨ ∃ p cs xs, v = .ref p ∧ H p = none ∧ H' = upd H p (.tup xs) ∧ c = .tuple cs ∧ DRs K FH cs xs
  | .fresh c => ∃ p o, v = .ref p ∧ H p = none ∧ H' = upd H p o ∧ Top K FH H' c p
  | .vr _ => False
theorem none_sub {FH H : Hp} (sub : Same FH H) {p : Addr} (h : H p = none) : FH p = none := by
  cases q : FH p with
  | none => rfl
  | some o => rw [sub p o q] at h; cases h
theorem no_slot (R : Rl K FH s σ H) {p : Addr} (h : H p = none) : ∀ (j : Nat) (sl : Slot), s[j]? = some (some sl) → sl.mine = true → σ[j]? ≠ some (some (V.ref p)) := fun j sl hj hm z => by
  obtain ⟨a, o, e1, ho, _⟩ := R.mineSome hj hm
  rw [z] at e1; cases e1
  rw [h] at ho; cases ho
theorem res_after (R : Rl K FH s σ H) (r : ResOk K FH H x v H') : ∃ FH', After K FH s σ H FH' s H' ∧ ValR K FH' s σ H H' v x := by
  cases x with
  | vr i => exact r.elim
  | imm c =>
    rcases r with ⟨rfl, r⟩ | ⟨p, cs, xs, rfl, hp, rfl, rfl, r⟩
    · exact ⟨FH, .refl R, r⟩
    · obtain ⟨R1, S1⟩ := R.laid (o := .tup xs) hp
      have nf := none_sub R.sub hp
      have R2 := R1.freezeAt nf upd_same (no_slot R hp)
      refine ⟨upd FH p (.tup xs), ⟨R2, ⟨fun b u h => by rw [upd_ne (ne_of_none h nf)]; exact h, S1.keep, S1.aloc, fun a h1 h2 h3 => ?_, fun a h => .inl h, fun a h => .inl h, fun _ _ h => ⟨h, rfl⟩⟩⟩, ?_⟩
      · have hne : a ≠ p := fun z => h2 (by rw [z]; exact hp)
        rw [upd_ne hne]; exact h1
      · show DR K (upd FH p (.tup xs)) (.tuple cs) (.ref p)
        unfold DR
        exact ⟨p, xs, rfl, .inl (.inl upd_same), DRs.mono (fun b u h => by rw [upd_ne (ne_of_none h nf)]; exact h) _ _ r⟩
  | fresh c =>
    obtain ⟨p, o, rfl, hp, rfl, t⟩ := r
    obtain ⟨R1, S1⟩ := R.laid (o := o) hp
    exact ⟨FH, ⟨R1, S1⟩, p, rfl, none_sub R.sub hp, hp, t, no_slot R hp⟩
theorem ValR.from {Hs' : Hp} (a : ∀ p, Hs p = none → Hs' p = none) (r : ValR K FH e σ Hs H v x) : ValR K FH e σ Hs' H v x := by
  cases x with
  | imm d => exact r
  | vr i => exact r
  | fresh d =>
    obtain ⟨p, ev, n, np, t, ns⟩ := r
    exact ⟨p, ev, n, a p np, t, ns⟩

/-- an operator of two values keeps a function of data -/
def Snd2 (K : PySem.W.Frag) (g : PyData → PyData → Option Vl) (r : R2) : Prop :=
  ∀ d e x v u (FH H : Hp) (Q : VK), g d e = some x → Same FH H → DR1 K FH H d v → DR1 K FH H e u → (∀ v' H', ResOk K FH H x v' H' → Q v' H') → r v u H Q
def Snd1 (K : PySem.W.Frag) (g : PyData → Option Vl) (r : V → Hp → VK → Prop) : Prop :=
  ∀ d x v (FH H : Hp) (Q : VK), g d = some x → Same FH H → DR1 K FH H d v → (∀ v' H', ResOk K FH H x v' H' → Q v' H') → r v H Q
/-- the end of an operation: what it makes is a result -/
theorem post_ofO {g : Option Vl} {Q : VK} {H0 : Hp} {s0 : En} {FH0 : Hp} (A0 : After K FH0 s0 σ H0 FH s H) (h : Post K T W FH s σ H (fun FH' s' H' x => ∀ v, ValR K FH' s' σ H0 H' v x → Q v H') (ofO s g)) :
    ∃ z, g = some z ∧ ∀ v' H', ResOk K FH H z v' H' → Q v' H' := by
  cases g with
  | none => exact h.elim
  | some z =>
    refine ⟨z, rfl, fun v' H' rr => ?_⟩
    obtain ⟨FH3, A3, vr⟩ := res_after A0.rl rr
    exact h FH3 H' A3 v' (vr.from fun p hp => A0.st.aloc p hp)
theorem tOp_of {r : R2} {g : PyData → PyData → Option Vl} (hs : Snd2 K g r) {eva evb : En → Out Vl} {Q : VK}
    (h : tE K T W (fun s => (eva s).bind fun x s1 => (evb s1).bind fun y s2 => ofO s2 ((rdv s2 x).bind fun d => (rdv s2 y).bind fun e => g d e)) σ H Q) :
    tOp r (tA K T W eva) (tA K T W evb) σ H Q := by
  obtain ⟨FH, s, R, h⟩ := h
  refine ⟨FH, s, R, (h.bind).imp fun FH1 s1 H1 x _ A1 hx v r1 => ⟨FH1, s1, A1.rl, (hx.2.bind).imp fun FH2 s2 H2 y _ A2 hy u r2 => ?_⟩⟩
  obtain ⟨z, qg, hz⟩ := post_ofO (A1.trans A2) hy.2
  cases qx : rdv s2 x with
  | none => rw [qx] at qg; cases qg
  | some d =>
    cases qy : rdv s2 y with
    | none => rw [qx, qy] at qg; cases qg
    | some e =>
      rw [qx, qy] at qg
      exact hs d e z v u FH2 H2 Q qg A2.rl.sub (AgR.rd A2.rl (r1.mono A2.st.fle) qx) (AgR.rd A2.rl r2 qy) hz
theorem tUn_of {r : V → Hp → VK → Prop} {g : PyData → Option Vl} (hs : Snd1 K g r) {eva : En → Out Vl} {Q : VK}
    (h : tE K T W (fun s => (eva s).bind fun x s1 => ofO s1 ((rdv s1 x).bind g)) σ H Q) :
    tUn r (tA K T W eva) σ H Q := by
  obtain ⟨FH, s, R, h⟩ := h
  refine ⟨FH, s, R, (h.bind).imp fun FH1 s1 H1 x _ A1 hx v r1 => ?_⟩
  obtain ⟨z, qg, hz⟩ := post_ofO A1 hx.2
  cases qx : rdv s1 x with
  | none => rw [qx] at qg; cases qg
  | some d =>
    rw [qx] at qg
    exact hs d z v FH1 H1 Q qg A1.rl.sub (AgR.rd A1.rl r1 qx) hz
end
end PV

namespace PV
open PySem PySem.Spec PyProof.Rows L2

/-! ### operators by values, as functions of data -/
def rG2 (K : PySem.W.Frag) (g : PyData → PyData → Option Vl) : R2 := fun v u H Q => ∃ d e x FH, g d e = some x ∧ Same FH H ∧ DR1 K FH H d v ∧ DR1 K FH H e u ∧ ∀ v' H', ResOk K FH H x v' H' → Q v' H'
theorem snd_rG2 (K : PySem.W.Frag) (g : PyData → PyData → Option Vl) : Snd2 K g (rG2 K g) := fun d e x v u FH H Q h sub r1 r2 q => ⟨d, e, x, FH, h, sub, r1, r2, q⟩
def rG1 (K : PySem.W.Frag) (g : PyData → Option Vl) : V → Hp → VK → Prop := fun v H Q => ∃ d x FH, g d = some x ∧ Same FH H ∧ DR1 K FH H d v ∧ ∀ v' H', ResOk K FH H x v' H' → Q v' H'
theorem snd_rG1 (K : PySem.W.Frag) (g : PyData → Option Vl) : Snd1 K g (rG1 K g) := fun d x v FH H Q h sub r1 q => ⟨d, x, FH, h, sub, r1, q⟩
theorem res_sc {K : PySem.W.Frag} {FH H : Hp} {d : PyData} {v : V} (h : DR K FH d v) : ResOk K FH H (.imm d) v H := .inl ⟨rfl, h⟩
theorem res_int {K : PySem.W.Frag} {FH H : Hp} {i : Int} : ResOk K FH H (.imm (.int i)) (.int i) H := res_sc (by unfold DR; rfl)
theorem res_str {K : PySem.W.Frag} {FH H : Hp} {i : Str} : ResOk K FH H (.imm (.str i)) (.str i) H := res_sc (by unfold DR; rfl)
theorem res_bl {K : PySem.W.Frag} {FH H : Hp} {i : Bool} : ResOk K FH H (.imm (.bool i)) (.bl i) H := res_sc (by unfold DR; rfl)
theorem res_lst {K : PySem.W.Frag} {FH H : Hp} {ds : List PyData} {xs : List V} {p : Addr} (h : H p = none) (r : DRs K FH ds xs) : ResOk K FH H (.fresh (.list ds)) (.ref p) (upd H p (.lst xs)) :=
  ⟨p, .lst xs, rfl, h, rfl, xs, upd_same, r⟩
theorem res_tup {K : PySem.W.Frag} {FH H : Hp} {ds : List PyData} {xs : List V} {p : Addr} (h : H p = none) (r : DRs K FH ds xs) : ResOk K FH H (.imm (.tuple ds)) (.ref p) (upd H p (.tup xs)) :=
  .inr ⟨p, ds, xs, rfl, h, rfl, rfl, r⟩

def boP : Bo → Operator
  | .add => .Add | .sub => .Sub | .mul => .Mult | .fdiv => .FloorDiv | .md => .Mod | .pow => .Pow | .shl => .LShift | .shr => .RShift | .band => .BitAnd | .bor => .BitOr | .bxor => .BitXor
def coP : Co → CmpOp
  | .eq => .Eq | .ne => .NotEq | .lt => .Lt | .le => .LtE | .gt => .Gt | .ge => .GtE | .inn => .In | .nin => .NotIn | .is => .Is | .isn => .IsNot

section
variable {X : Cx}
/-- two lists one behind the other, both only read -/
theorem cat_lists {pins : List (Addr × Obj)} {s : Shared} {σ : Sto} {H : Hp} {a b : Addr} {xs ys : List V} {Q : VK} (I : Inv X pins σ H s) (ha : Rd H a (.lst xs)) (hb : Rd H b (.lst ys)) (hz : xs.length + ys.length ≤ sizeLine)
    (q : ∀ p, H p = none → Q (.ref p) (upd H p (.lst (xs ++ ys)))) : wpAny (model X.prog X.w) X.A (binaryOp .Add (.ref a) (.ref b)) (EP X pins σ Q) X.xe s := by
  obtain ⟨z1, its, n1, r1, e1⟩ := ha.ok I.hok
  obtain ⟨z2, jts, n2, r2, e2⟩ := hb.ok I.hok
  have q1 := r1.length
  have q2 := r2.length
  refine PySem.P.add_list (items := its.toArray) (items2 := jts.toArray) e1 e2 ?_ (by simp only [List.size_toArray]; omega)
  rw [show its.toArray ++ jts.toArray = (its ++ jts).toArray by simp]
  refine ⟨.ref s.heap.objs.size, upd H s.heap.objs.size (.lst (xs ++ ys)), ?_, rfl, q _ (I.hok.fresh (Nat.le_refl _))⟩
  refine I.laid (t' := s.toks) (fun b u e => Heap.get?_push_of_some _ e) (Nat.le_refl _) ?_
  exact ⟨by rw [List.length_append]; omega, its ++ jts, _, r1.append r2, Heap.get?_push_size _ rfl⟩
theorem rep_fold (n : Nat) (c : Array Nat) : (List.replicate n c).foldl (· ++ ·) #[] = (List.replicate n c.toList).flatten.toArray := by
  have gen : ∀ (n : Nat) (acc : Array Nat), (List.replicate n c).foldl (· ++ ·) acc = acc ++ (List.replicate n c.toList).flatten.toArray := by
    intro n
    induction n with
    | zero => intro acc; simp
    | succ n ih =>
      intro acc
      rw [List.replicate_succ, List.foldl_cons, ih, List.replicate_succ, List.flatten_cons]
      apply Array.toList_inj.mp
      simp [List.append_assoc]
  rw [gen n #[]]; simp
/-- a text some times -/
theorem rep_str {pins : List (Addr × Obj)} {s : Shared} {σ : Sto} {H : Hp} {x : Str} {n : Int} {t u : Tok} {Q : VK} (I : Inv X pins σ H s) (h0 : 0 ≤ n) (h1 : n ≤ 1000) (hz : x.length * n.toNat ≤ sizeLine)
    (q : Q (.str ⟨(List.replicate n.toNat x.cps.toList).flatten.toArray⟩) H) : wpAny (model X.prog X.w) X.A (binaryOp .Mult (.str x t) (.int n u)) (EP X pins σ Q) X.xe s := by
  have hs := sizeLine_eq
  refine PySem.P.mul_str ?_ ?_ ?_ ?_
  · rw [decide_eq_false (show ¬ n < -(2 ^ 63 : Int) by omega), decide_eq_false (show ¬ n ≥ 2 ^ 63 by omega)]; rfl
  · intro hn hb hx
    have hn' : 0 < n := by omega
    have h2 : (x.length : Int) * n ≤ 16777216 := by
      have : ((x.length * n.toNat : Nat) : Int) ≤ 16777216 := by rw [hs] at hz; omega
      rwa [Int.natCast_mul, Int.toNat_of_nonneg h0] at this
    have h4 : (2 ^ 63 - 1 : Int) / n * n + (2 ^ 63 - 1 : Int) % n = 2 ^ 63 - 1 := Int.ediv_mul_add_emod _ _
    have h5 := Int.emod_lt_of_pos (2 ^ 63 - 1 : Int) hn'
    have h6 : (2 ^ 63 - 1 : Int) / n * n < (x.length : Int) * n := Int.mul_lt_mul_of_pos_right hx hn'
    omega
  · intro hn hb
    have : ¬ (x.length * n.toNat > sizeLine) := by omega
    show decide _ = false
    exact decide_eq_false this
  · by_cases hn : n < 1
    · rw [if_pos hn]
      have e0 : n = 0 := by omega
      subst e0
      refine ⟨by decide, .str Str.empty, H, I.tok _, ⟨_, rfl⟩, ?_⟩
      have e2 : (⟨(List.replicate (0 : Int).toNat x.cps.toList).flatten.toArray⟩ : Str) = Str.empty := by simp [Str.empty]
      rw [← e2]; exact q
    · rw [if_neg hn]
      by_cases hb : (n == 1 || x.length == 0) = true
      · rw [if_pos hb]
        refine ⟨.str x, H, I, ⟨_, rfl⟩, ?_⟩
        have e2 : (⟨(List.replicate n.toNat x.cps.toList).flatten.toArray⟩ : Str) = x := by
          rcases Bool.or_eq_true_iff.mp hb with z | z
          · have z' : n = 1 := by simpa using z
            subst z'
            simp [List.replicate]
          · have z' : x.length = 0 := by simpa using z
            have z2 : x.cps = #[] := by apply Array.eq_empty_of_size_eq_zero; exact z'
            obtain ⟨c⟩ := x
            simp only at z2
            subst z2
            simp
        rw [e2] at q
        exact q
      · rw [if_neg hb, rep_fold]
        refine ⟨?_, .str _, H, I.tok _, ⟨_, rfl⟩, q⟩
        have : (⟨(List.replicate n.toNat x.cps.toList).flatten.toArray⟩ : Str).length ≤ sizeLine := by
          show (List.replicate n.toNat x.cps.toList).flatten.toArray.size ≤ sizeLine
          rw [List.size_toArray, List.length_flatten, List.map_replicate, List.sum_replicate_nat]
          have : x.cps.toList.length = x.length := by simp [Str.length]
          rw [this, Nat.mul_comm]; exact hz
        first | exact this | (show _ ≤ _; exact this) | (simpa using this)
theorem op_bin (op : Bo) : OpR X (binaryOp (boP op)) (rG2 X.K (opBin op)) := by
  intro pins s σ H v u vv uu Q I rv ru h
  obtain ⟨d, e, x, FH, hg, sub, r1, r2, q⟩ := h
  cases op <;> cases d <;> cases e <;> (try (simp only [opBin] at hg; cases hg; done))
  case add.int.int i j =>
    simp only [opBin] at hg; cases hg; cases r1; cases r2
    exact op_add pins s σ H _ _ vv uu Q I rv ru ⟨i, j, rfl, rfl, q _ _ res_int⟩
  case add.str.str i j =>
    simp only [opBin] at hg
    split at hg
    · next hz =>
      cases hg; cases r1; cases r2
      exact op_add_str pins s σ H _ _ vv uu Q I rv ru ⟨i, j, rfl, rfl, hz, q _ _ res_str⟩
    · cases hg
  case add.list.list xs ys =>
    simp only [opBin] at hg
    split at hg
    · next hz =>
      cases hg
      obtain ⟨a, us, rfl, ha, d1⟩ := r1
      obtain ⟨b, ws, rfl, hb, d2⟩ := r2
      cases rv; cases ru
      exact cat_lists I ha hb (by rw [← d1.len, ← d2.len]; exact hz) fun p hp => q _ _ (res_lst hp (d1.append d2))
    · cases hg
  case add.tuple.tuple xs ys =>
    simp only [opBin] at hg
    split at hg
    · next hz =>
      cases hg
      obtain ⟨a, us, rfl, ha, d1⟩ := r1
      obtain ⟨b, ws, rfl, hb, d2⟩ := r2
      have l1 := d1.len
      have l2 := d2.len
      have n1 : us ≠ [] := fun z => by
        subst z
        cases xs with
        | nil => exact absurd hz.2.1 (by simp)
        | cons _ _ => simp at l1
      have n2 : ws ≠ [] := fun z => by
        subst z
        cases ys with
        | nil => exact absurd hz.2.2 (by simp)
        | cons _ _ => simp at l2
      refine op_catT pins s σ H _ _ vv uu Q I rv ru ⟨a, b, us, ws, rfl, rfl, same_sqt sub ha, same_sqt sub hb, n1, by rw [← l1, ← l2]; exact hz.1, fun z => absurd z n2, fun _ p hp => q _ _ (res_tup hp (d1.append d2))⟩
    · cases hg
  case sub.int.int i j =>
    simp only [opBin] at hg; cases hg; cases r1; cases r2
    exact op_sub pins s σ H _ _ vv uu Q I rv ru ⟨i, j, rfl, rfl, q _ _ res_int⟩
  case mul.int.int i j =>
    simp only [opBin] at hg
    split at hg
    · next hz =>
      cases hg; cases r1; cases r2
      unfold mulOk at hz
      rcases Bool.or_eq_true_iff.mp hz with z | z
      · exact op_mul pins s σ H _ _ vv uu Q I rv ru ⟨i, j, rfl, rfl, (by unfold CMul; exact of_decide_eq_true z), q _ _ res_int⟩
      · exact op_mulW pins s σ H _ _ vv uu Q I rv ru ⟨i, j, rfl, rfl, (by unfold CMulW; exact of_decide_eq_true z), q _ _ res_int⟩
    · cases hg
  case mul.str.int x j =>
    simp only [opBin] at hg
    split at hg
    · next hz =>
      cases hg; cases r1; cases r2
      obtain ⟨t, rfl⟩ := rv
      obtain ⟨t', rfl⟩ := ru
      exact rep_str I hz.1 hz.2.1 hz.2.2 (q _ _ res_str)
    · cases hg
  case fdiv.int.int i j =>
    simp only [opBin] at hg
    split at hg
    · next hz =>
      cases hg; cases r1; cases r2
      exact op_fdivW pins s σ H _ _ vv uu Q I rv ru ⟨i, j, rfl, rfl, hz, q _ _ res_int⟩
    · cases hg
  case md.int.int i j =>
    simp only [opBin] at hg
    split at hg
    · next hz =>
      cases hg; cases r1; cases r2
      exact op_mod pins s σ H _ _ vv uu Q I rv ru ⟨i, j, rfl, rfl, hz, q _ _ res_int⟩
    · cases hg
  case pow.int.int i j =>
    simp only [opBin] at hg
    split at hg
    · next hz =>
      cases hg; cases r1; cases r2
      obtain ⟨t, rfl⟩ := rv
      obtain ⟨t', rfl⟩ := ru
      exact pow_int hz.1 hz.2 ⟨.int _, H, I.tok _, ⟨_, rfl⟩, q _ _ res_int⟩
    · cases hg
  case shl.int.int i j =>
    simp only [opBin] at hg
    split at hg
    · next hz =>
      cases hg; cases r1; cases r2
      exact op_shlW pins s σ H _ _ vv uu Q I rv ru ⟨i, j, rfl, rfl, hz, q _ _ res_int⟩
    · cases hg
  case shr.int.int i j =>
    simp only [opBin] at hg
    split at hg
    · next hz =>
      cases hg; cases r1; cases r2
      exact op_shr pins s σ H _ _ vv uu Q I rv ru ⟨i, j, rfl, rfl, hz, q _ _ res_int⟩
    · cases hg
  case band.int.int i j =>
    simp only [opBin] at hg; cases hg; cases r1; cases r2
    exact op_and pins s σ H _ _ vv uu Q I rv ru ⟨i, j, rfl, rfl, q _ _ res_int⟩
  case bor.int.int i j =>
    simp only [opBin] at hg; cases hg; cases r1; cases r2
    exact op_or pins s σ H _ _ vv uu Q I rv ru ⟨i, j, rfl, rfl, q _ _ res_int⟩
  case bxor.int.int i j =>
    simp only [opBin] at hg; cases hg; cases r1; cases r2
    exact op_xor pins s σ H _ _ vv uu Q I rv ru ⟨i, j, rfl, rfl, q _ _ res_int⟩
end
end PV

namespace PV
open PySem PySem.Spec PyProof.Rows L2

mutual
theorem DR.dp {K : PySem.W.Frag} {H : Hp} : ∀ (d : PyData) (v : V), d.canLay0 = true → DR K H d v → Dp K H v d
  | .none, v, _, r => by unfold DR at r; subst r; exact .non
  | .bool b, v, _, r => by unfold DR at r; subst r; exact .bl b
  | .int b, v, _, r => by unfold DR at r; subst r; exact .int b
  | .str b, v, _, r => by unfold DR at r; subst r; exact .str b
  | .list ds, v, c, r => by
    unfold DR at r
    obtain ⟨a, xs, e, h, t⟩ := r
    subst e
    exact .lst (.inl h) (DRs.dp ds xs (by simpa [PyData.canLay0] using c) t)
  | .tuple ds, v, c, r => by
    unfold DR at r
    obtain ⟨a, xs, e, h, t⟩ := r
    subst e
    exact .tup h (DRs.dp ds xs (by simpa [PyData.canLay0] using c) t)
  | .dict _, v, c, _ => by simp [PyData.canLay0] at c
theorem DRs.dp {K : PySem.W.Frag} {H : Hp} : ∀ (ds : List PyData) (vs : List V), PyData.canLayAll0 ds = true → DRs K H ds vs → DpAll K H vs ds
  | [], vs, _, r => by
    have r' : vs = [] := by simpa [DRs] using r
    subst r'; exact .nil
  | d :: ds, vs, c, r => by
    unfold DRs at r
    obtain ⟨v, rr, e, s, t⟩ := r
    subst e
    have c' : d.canLay0 = true ∧ PyData.canLayAll0 ds = true := by simpa [PyData.canLayAll0] using c
    exact .cons (DR.dp d v c'.1 s) (DRs.dp ds rr c'.2 t)
end
theorem shaped_lay {d : PyData} (h : SeqAt.shaped d = true) : d.canLay0 = true := SeqAt.canLay_of_shaped h

def gB (o : Option Bool) : Option Vl := o.map fun k => .imm (.bool k)
theorem gB_some {o : Option Bool} {x : Vl} (h : gB o = some x) : ∃ k, o = some k ∧ x = .imm (.bool k) := by
  cases o with
  | none => cases h
  | some k => exact ⟨k, rfl, (Option.some.inj h).symm⟩

/-- a scalar's value -/
def scV : PyData → V
  | .none => .non | .bool b => .bl b | .int i => .int i | .str x => .str x | _ => .non
theorem scalD_v {K : PySem.W.Frag} {FH H : Hp} {d : PyData} {v : V} (h : scalD d = true) (r : DR1 K FH H d v) : v = scV d := by
  cases d <;> first | exact r | cases h
theorem scal2_scal {d e : PyData} (h : scal2 d e = true) : L2.scal (scV d) (scV e) = true ∧ scalD d = true ∧ scalD e = true := by
  cases d <;> cases e <;> first | exact ⟨rfl, rfl, rfl⟩ | cases h
theorem scal2_eqv {d e : PyData} (h : scal2 d e = true) : PyData.eqv d e = decide (scV d = scV e) := by
  cases d <;> cases e <;> first
    | cases h; done
    | (simp [PyData.eqv, scV]; done)
    | (simp only [PyData.eqv, scV]; first | exact dec_int.symm | exact dec_bl.symm | exact dec_str.symm)
theorem flat_v {K : PySem.W.Frag} {FH H : Hp} {d : PyData} {v : V} (h : flatD d = true) (r : DR1 K FH H d v) : v = scV d := scalD_v h r
theorem flat_vs {K : PySem.W.Frag} {H : Hp} : ∀ {ds : List PyData} {vs : List V}, ds.all flatD = true → DRs K H ds vs → vs = ds.map scV
  | [], vs, _, r => by simpa [DRs] using r
  | d :: ds, vs, h, r => by
    rw [List.all_cons, Bool.and_eq_true] at h
    unfold DRs at r
    obtain ⟨v, rr, e, s, t⟩ := r
    have e1 : v = scV d := by
      cases d <;> first | (unfold DR at s; exact s) | exact (Bool.false_ne_true h.1).elim
    subst e
    rw [e1, flat_vs h.2 t]; rfl
theorem flatV_sc {d : PyData} (h : flatD d = true) : L2.flatV (scV d) = true := by
  cases d <;> first | rfl | cases h
theorem flatV_all : ∀ {ds : List PyData}, ds.all flatD = true → (ds.map scV).all L2.flatV = true
  | [], _ => rfl
  | d :: ds, h => by
    rw [List.all_cons, Bool.and_eq_true] at h
    rw [List.map_cons, List.all_cons, flatV_sc h.1, flatV_all h.2]; rfl
theorem eqV_sc {d e : PyData} (h : flatD d = true) (h' : flatD e = true) : L2.eqV (scV d) (scV e) = PyData.eqv d e := by
  cases d <;> cases e <;> first | (cases h; done) | (cases h'; done) | (simp [L2.eqV, scV, PyData.eqv]; done)
theorem inV_sc {x : PyData} (hx : flatD x = true) : ∀ {ds : List PyData}, ds.all flatD = true → L2.inV (scV x) (ds.map scV) = ds.any fun z => PyData.eqv z x
  | [], _ => rfl
  | d :: ds, h => by
    rw [List.all_cons, Bool.and_eq_true] at h
    have ih := inV_sc hx h.2
    unfold L2.inV at ih ⊢
    rw [List.map_cons, List.any_cons, List.any_cons, ih, eqV_sc h.1 hx]

theorem key_of {K : PySem.W.Frag} {FH H : Hp} {d : PyData} {v : V} (h : isKey d = true) (r : DR1 K FH H d v) : ∃ key : Key, v = kV key ∧ keyD key = d := by
  cases d with
  | int i => cases r; exact ⟨.inl i, rfl, rfl⟩
  | str i => cases r; exact ⟨.inr i, rfl, rfl⟩
  | _ => cases h
theorem keyEq_D (a b : Key) : keyEq (keyD a) (keyD b) = decide (a = b) := by
  cases a <;> cases b <;> simp [keyEq, keyD]
theorem look_rel {K : PySem.W.Frag} {H : Hp} : ∀ {kvs : List (PyData × PyData)} {ks : List (Key × V)}, DRk K H kvs ks → ∀ key : Key,
    (valV ks key = none ∧ lookD kvs (keyD key) = none) ∨ ∃ v d, valV ks key = some v ∧ lookD kvs (keyD key) = some d ∧ DR K H d v
  | [], ks, r, key => by
    have r' : ks = [] := by simpa [DRk] using r
    subst r'
    exact .inl ⟨rfl, rfl⟩
  | (k, d) :: kvs, ks, r, key => by
    unfold DRk at r
    obtain ⟨key', v, r', e, ek, s, t⟩ := r
    subst e ek
    have ih := look_rel t key
    by_cases h : key' = key
    · subst h
      refine .inr ⟨v, d, ?_, ?_, s⟩
      · simp [valV]
      · simp [lookD, keyEq_D]
    · have h1 : valV ((key', v) :: r') key = valV r' key := by simp [valV, h]
      have h2 : lookD ((keyD key', d) :: kvs) (keyD key) = lookD kvs (keyD key) := by simp [lookD, keyEq_D, h]
      rw [h1, h2]; exact ih
theorem look_some {K : PySem.W.Frag} {H : Hp} {kvs : List (PyData × PyData)} {ks : List (Key × V)} (r : DRk K H kvs ks) (key : Key) : (valV ks key).isSome = (lookD kvs (keyD key)).isSome := by
  rcases look_rel r key with ⟨h1, h2⟩ | ⟨v, d, h1, h2, _⟩ <;> rw [h1, h2] <;> rfl
section
variable {X : Cx}
theorem eq_ok (hu : X.A.units + 65 < cLine) (neg : Bool) : OpR X (compareOp (if neg then .NotEq else .Eq)) (rG2 X.K fun d e => gB ((eqD d e).map fun k => if neg then !k else k)) := by
  intro pins s σ H v u vv uu Q I rv ru h
  obtain ⟨d, e, x, FH, hg, sub, r1, r2, q⟩ := h
  obtain ⟨k, hk, rfl⟩ := gB_some hg
  obtain ⟨k0, hq, hk'⟩ := Option.map_eq_some_iff.mp hk
  subst hk'
  unfold eqD at hq
  split at hq
  · next hc =>
    cases hq
    rcases Bool.or_eq_true_iff.mp hc with z | z
    · obtain ⟨z1, z2, z3⟩ := scal2_scal z
      have e1 := scalD_v z2 r1
      have e2 := scalD_v z3 r2
      subst e1 e2
      cases neg with
      | false => exact op_eq pins s σ H _ _ vv uu Q I rv ru ⟨z1, q _ _ (by rw [← scal2_eqv z]; exact res_bl)⟩
      | true => exact op_ne pins s σ H _ _ vv uu Q I rv ru ⟨z1, q _ _ (by rw [← scal2_eqv z]; exact res_bl)⟩
    · rw [Bool.and_eq_true] at z
      have p1 := DR.dp d v (shaped_lay z.1) (r1.full sub)
      have p2 := DR.dp e u (shaped_lay z.2) (r2.full sub)
      cases neg with
      | false => exact op_eqD (by omega) pins s σ H _ _ vv uu Q I rv ru ⟨d, e, p1, p2, z.1, z.2, q _ _ res_bl⟩
      | true => exact op_neD (by omega) pins s σ H _ _ vv uu Q I rv ru ⟨d, e, p1, p2, z.1, z.2, q _ _ res_bl⟩
  · cases hq
theorem lt_ok : OpR X (compareOp .Lt) (rG2 X.K fun d e => gB (ltD d e)) := by
  intro pins s σ H v u vv uu Q I rv ru h
  obtain ⟨d, e, x, FH, hg, sub, r1, r2, q⟩ := h
  obtain ⟨k, hk, rfl⟩ := gB_some hg
  cases d <;> cases e <;> (try (cases hk; done))
  case int.int i j =>
    cases hk; cases r1; cases r2
    exact op_lt pins s σ H _ _ vv uu Q I rv ru ⟨i, j, rfl, rfl, q _ _ res_bl⟩
  case str.str i j =>
    cases hk; cases r1; cases r2
    exact op_lt_str pins s σ H _ _ vv uu Q I rv ru ⟨i, j, rfl, rfl, q _ _ res_bl⟩
theorem gt_ok : OpR X (compareOp .Gt) (rG2 X.K fun d e => gB (ltD e d)) := by
  intro pins s σ H v u vv uu Q I rv ru h
  obtain ⟨d, e, x, FH, hg, sub, r1, r2, q⟩ := h
  obtain ⟨k, hk, rfl⟩ := gB_some hg
  cases d <;> cases e <;> (try (cases hk; done))
  case int.int i j =>
    cases hk; cases r1; cases r2
    exact op_gt pins s σ H _ _ vv uu Q I rv ru ⟨i, j, rfl, rfl, q _ _ res_bl⟩
  case str.str i j =>
    cases hk; cases r1; cases r2
    exact op_gt_str pins s σ H _ _ vv uu Q I rv ru ⟨i, j, rfl, rfl, q _ _ res_bl⟩
theorem le_ok : OpR X (compareOp .LtE) (rG2 X.K fun d e => gB (leD d e)) := by
  intro pins s σ H v u vv uu Q I rv ru h
  obtain ⟨d, e, x, FH, hg, sub, r1, r2, q⟩ := h
  obtain ⟨k, hk, rfl⟩ := gB_some hg
  cases d <;> cases e <;> (try (cases hk; done))
  case int.int i j =>
    cases hk; cases r1; cases r2
    exact op_le pins s σ H _ _ vv uu Q I rv ru ⟨i, j, rfl, rfl, q _ _ res_bl⟩
  case str.str i j =>
    cases hk; cases r1; cases r2
    exact op_le_str pins s σ H _ _ vv uu Q I rv ru ⟨i, j, rfl, rfl, q _ _ res_bl⟩
theorem ge_ok : OpR X (compareOp .GtE) (rG2 X.K fun d e => gB (leD e d)) := by
  intro pins s σ H v u vv uu Q I rv ru h
  obtain ⟨d, e, x, FH, hg, sub, r1, r2, q⟩ := h
  obtain ⟨k, hk, rfl⟩ := gB_some hg
  cases d <;> cases e <;> (try (cases hk; done))
  case int.int i j =>
    cases hk; cases r1; cases r2
    exact op_ge pins s σ H _ _ vv uu Q I rv ru ⟨i, j, rfl, rfl, q _ _ res_bl⟩
  case str.str i j =>
    cases hk; cases r1; cases r2
    exact op_ge_str pins s σ H _ _ vv uu Q I rv ru ⟨i, j, rfl, rfl, q _ _ res_bl⟩
theorem one_sign {x : Str} (h : x.cps.size = 1) : x = ⟨#[x.cps.getD 0 0]⟩ := by
  obtain ⟨⟨l⟩⟩ := x
  simp only [List.size_toArray] at h
  match l, h with
  | [c], _ => rfl
theorem in_ok (hu : X.A.units + 65 < cLine) (neg : Bool) : OpR X (compareOp (if neg then .NotIn else .In)) (rG2 X.K fun d e => gB ((inD d e).map fun k => if neg then !k else k)) := by
  intro pins s σ H v u vv uu Q I rv ru h
  obtain ⟨d, e, x, FH, hg, sub, r1, r2, q⟩ := h
  obtain ⟨k, hk, rfl⟩ := gB_some hg
  cases e with
  | none => cases hk
  | bool _ => cases hk
  | int _ => cases hk
  | dict kvs =>
    obtain ⟨k0, hq, hk'⟩ := Option.map_eq_some_iff.mp hk
    subst hk'
    simp only [inD] at hq
    split at hq
    · next hc =>
      cases hq
      obtain ⟨a, ks, rfl, ha, dd⟩ := r2
      obtain ⟨key, rfl, e1⟩ := key_of hc r1
      have g : DGet H a (kV key) (valV ks key) := .inl ⟨ks, key, ha, rfl, rfl⟩
      have e2 : (valV ks key).isSome = (lookD kvs d).isSome := by rw [← e1]; exact look_some dd key
      cases ru
      cases neg with
      | false => exact d_in (by omega) I g rv fun s' I' => ⟨.bl (valV ks key).isSome, H, I', rfl, by rw [e2]; exact q _ _ res_bl⟩
      | true => exact d_notIn (by omega) I g rv fun s' I' => ⟨.bl (!(valV ks key).isSome), H, I', rfl, by rw [e2]; exact q _ _ res_bl⟩
    · cases hq
  | str z =>
    cases d with
    | str y =>
      have hk' : (if neg then !strIn y z else strIn y z) = k := Option.some.inj hk
      subst hk'
      cases r1; cases r2
      unfold strIn at q
      by_cases h1 : y.cps.size = 1
      · simp only [if_pos h1] at q
        have e1 := one_sign h1
        cases neg with
        | false => exact op_in_sign pins s σ H _ _ vv uu Q I rv ru ⟨y.cps.getD 0 0, z, by rw [← e1], rfl, q _ _ res_bl⟩
        | true => exact op_notIn_sign pins s σ H _ _ vv uu Q I rv ru ⟨y.cps.getD 0 0, z, by rw [← e1], rfl, q _ _ res_bl⟩
      · simp only [if_neg h1] at q
        cases neg with
        | false => exact op_in_str pins s σ H _ _ vv uu Q I rv ru ⟨y, z, rfl, rfl, q _ _ res_bl⟩
        | true => exact L2.op_notin_str pins s σ H _ _ vv uu Q I rv ru ⟨y, z, rfl, rfl, q _ _ res_bl⟩
    | _ => cases hk
  | list ds =>
    obtain ⟨k0, hq, hk'⟩ := Option.map_eq_some_iff.mp hk
    subst hk'
    simp only [inD] at hq
    split at hq
    · next hc =>
      cases hq
      obtain ⟨a, xs, rfl, ha, dd⟩ := r2
      rcases Bool.or_eq_true_iff.mp hc with z | z
      · rw [Bool.and_eq_true] at z
        have e1 := flat_v z.1 r1
        have e2 := flat_vs z.2 dd
        subst e1 e2
        have e3 := inV_sc z.1 z.2
        cases neg with
        | false => exact op_in_seq pins s σ H _ _ vv uu Q I rv ru ⟨a, _, rfl, .inl (.inl ha), flatV_sc z.1, flatV_all z.2, q _ _ (by simp only [e3]; exact res_bl)⟩
        | true => exact op_notIn_seq pins s σ H _ _ vv uu Q I rv ru ⟨a, _, rfl, .inl (.inl ha), flatV_sc z.1, flatV_all z.2, q _ _ (by simp only [e3]; exact res_bl)⟩
      · rw [Bool.and_eq_true] at z
        have p1 := DR.dp d v (shaped_lay z.1) (r1.full sub)
        have p2 := DR.dp (.list ds) (.ref a) (shaped_lay z.2) (by unfold DR; exact ⟨a, xs, rfl, ha, DRs.mono sub _ _ dd⟩)
        cases neg with
        | false => exact op_inD (by omega) pins s σ H _ _ vv uu Q I rv ru ⟨d, ds, p1, p2, z.1, z.2, q _ _ res_bl⟩
        | true => exact op_notInD (by omega) pins s σ H _ _ vv uu Q I rv ru ⟨d, ds, p1, p2, z.1, z.2, q _ _ res_bl⟩
    · cases hq
  | tuple ds =>
    obtain ⟨k0, hq, hk'⟩ := Option.map_eq_some_iff.mp hk
    subst hk'
    simp only [inD] at hq
    split at hq
    · next z =>
      cases hq
      obtain ⟨a, xs, rfl, ha, dd⟩ := r2
      rw [Bool.and_eq_true] at z
      have e1 := flat_v z.1 r1
      have e2 := flat_vs z.2 dd
      subst e1 e2
      have e3 := inV_sc z.1 z.2
      cases neg with
      | false => exact op_in_seq pins s σ H _ _ vv uu Q I rv ru ⟨a, _, rfl, .inr (same_sqt sub ha), flatV_sc z.1, flatV_all z.2, q _ _ (by simp only [e3]; exact res_bl)⟩
      | true => exact op_notIn_seq pins s σ H _ _ vv uu Q I rv ru ⟨a, _, rfl, .inr (same_sqt sub ha), flatV_sc z.1, flatV_all z.2, q _ _ (by simp only [e3]; exact res_bl)⟩
    · cases hq
/-- is True, is False, of any value -/
theorem is_bool {pins : List (Addr × Obj)} {s : Shared} {σ : Sto} {H : Hp} {v : V} {u : Value} {b : Bool} {Q : VK} (neg : Bool) (I : Inv X pins σ H s) (r : RelV v u) (hv : ∀ n, v ≠ .ty n)
    (q : Q (.bl (if neg then !decide (v = .bl b) else decide (v = .bl b))) H) : wpAny (model X.prog X.w) X.A (compareOp (if neg then .IsNot else .Is) u (.bool b)) (EP X pins σ Q) X.xe s := by
  have other : (u ≠ .bool b) → v ≠ .bl b → plainIs u (.bool b) = true → wpAny (model X.prog X.w) X.A (compareOp (if neg then .IsNot else .Is) u (.bool b)) (EP X pins σ Q) X.xe s := fun h1 h2 h3 => by
    rw [decide_eq_false h2] at q
    cases neg with
    | false => exact wpAny_is_other h3 h1 ⟨.bl false, H, I, rfl, by simpa using q⟩
    | true => exact wpAny_isNot_other h3 h1 ⟨.bl true, H, I, rfl, by simpa using q⟩
  cases v with
  | bl a =>
    cases r
    by_cases e : a = b
    · subst e
      rw [decide_eq_true rfl] at q
      cases neg with
      | false => exact wpAny_is_self rfl ⟨.bl true, H, I, rfl, by simpa using q⟩
      | true => exact wpAny_isNot_self rfl ⟨.bl false, H, I, rfl, by simpa using q⟩
    · exact other (fun z => e (Value.bool.inj z)) (fun z => e (V.bl.inj z)) rfl
  | non => cases r; exact other (fun z => nomatch z) (fun z => nomatch z) rfl
  | int i => obtain ⟨t, rfl⟩ := r; exact other (fun z => nomatch z) (fun z => nomatch z) rfl
  | str i => obtain ⟨t, rfl⟩ := r; exact other (fun z => nomatch z) (fun z => nomatch z) rfl
  | byt i => obtain ⟨t, rfl⟩ := r; exact other (fun z => nomatch z) (fun z => nomatch z) rfl
  | flt i => obtain ⟨t, rfl⟩ := r; exact other (fun z => nomatch z) (fun z => nomatch z) rfl
  | ref a => cases r; exact other (fun z => nomatch z) (fun z => nomatch z) rfl
  | ty n => exact absurd rfl (hv n)
theorem is_ok (neg : Bool) : OpR X (compareOp (if neg then .IsNot else .Is)) (rG2 X.K fun d e => gB ((isD d e).map fun k => if neg then !k else k)) := by
  intro pins s σ H v u vv uu Q I rv ru h
  obtain ⟨d, e, x, FH, hg, sub, r1, r2, q⟩ := h
  obtain ⟨k, hk, rfl⟩ := gB_some hg
  have hty : ∀ n, v ≠ .ty n := fun n z => by
    subst z
    cases d <;> first | cases r1; done | (obtain ⟨a, xs, e, _⟩ := r1; cases e)
  have goN : ∀ kk : Bool, isD d e = some kk → e = .none → kk = decide (v = .non) := fun kk hh he => by
    subst he
    cases d <;> first
      | (cases r1; cases hh; rfl)
      | (obtain ⟨a, xs, ee, _⟩ := r1; subst ee; cases hh; rfl)
  have goB : ∀ (kk b : Bool), isD d e = some kk → e = .bool b → kk = decide (v = .bl b) := fun kk b hh he => by
    subst he
    cases d <;> first
      | (cases r1; cases hh; simp; done)
      | (obtain ⟨a, xs, ee, _⟩ := r1; subst ee; cases hh; simp; done)
  cases hd : isD d e with
  | none => rw [hd] at hk; cases hk
  | some kk =>
    rw [hd] at hk
    have hk' : (if neg then !kk else kk) = k := Option.some.inj hk
    subst hk'
    cases e with
    | none =>
      have e1 := goN kk hd rfl
      cases r2
      cases neg with
      | false => exact op_isN pins s σ H _ _ vv uu Q I rv ru ⟨rfl, by rw [← e1]; exact q _ _ res_bl⟩
      | true => exact op_notN pins s σ H _ _ vv uu Q I rv ru ⟨rfl, by rw [← e1]; exact q _ _ res_bl⟩
    | bool b =>
      have e1 := goB kk b hd rfl
      cases r2
      cases ru
      refine is_bool neg I rv hty ?_
      rw [← e1]; exact q _ _ res_bl
    | _ => cases d <;> cases hd
theorem op_cmp (hu : X.A.units + 65 < cLine) (op : Co) : OpR X (compareOp (coP op)) (rG2 X.K fun d e => (opCmp op d e).map fun k => .imm (.bool k)) := by
  cases op with
  | eq => have := eq_ok (X := X) hu false; simpa [gB, opCmp, coP] using this
  | ne => have := eq_ok (X := X) hu true; simpa [gB, opCmp, coP] using this
  | lt => exact lt_ok
  | le => exact le_ok
  | gt => exact gt_ok
  | ge => exact ge_ok
  | inn => have := in_ok (X := X) hu false; simpa [gB, opCmp, coP] using this
  | nin => have := in_ok (X := X) hu true; simpa [gB, opCmp, coP] using this
  | is => have := is_ok (X := X) false; simpa [gB, opCmp, coP] using this
  | isn => have := is_ok (X := X) true; simpa [gB, opCmp, coP] using this

/-! ### truth -/
theorem tru_data {pins : List (Addr × Obj)} {s : Shared} {σ : Sto} {H FH : Hp} {d : PyData} {v : V} {u : Value} {k : Bool} {Q : Bool → Hp → Prop} (I : Inv X pins σ H s) (r : RelV v u) (sub : Same FH H) (dr : DR1 X.K FH H d v) (h : truD d = some k) (q : Q k H) :
    wpAny (model X.prog X.w) X.A (truthy u) (TP X pins σ Q) X.xe s := by
  cases d with
  | none => cases dr; cases h; exact tru_ok pins s σ H _ u Q I r ⟨_, rfl, q⟩
  | bool b => cases dr; cases h; exact tru_ok pins s σ H _ u Q I r ⟨_, rfl, q⟩
  | int b => cases dr; cases h; exact tru_ok pins s σ H _ u Q I r ⟨_, rfl, q⟩
  | str x =>
    cases dr
    simp only [truD] at h
    split at h
    · next hz => cases h; exact tru_ok pins s σ H _ u Q I r ⟨_, ⟨hz, rfl⟩, q⟩
    · cases h
  | list ds =>
    obtain ⟨a, xs, rfl, ha, t⟩ := dr
    have hl := t.len
    refine tru_ok pins s σ H _ u Q I r ⟨k, .inl ⟨xs, .inl ha, ?_⟩, q⟩
    cases h
    cases ds <;> cases xs <;> first | rfl | (simp at hl)
  | tuple ds =>
    obtain ⟨a, xs, rfl, ha, t⟩ := dr
    have hl := t.len
    refine tru_ok pins s σ H _ u Q I r ⟨k, .inr (.inl ⟨xs, same_sqt sub ha, ?_⟩), q⟩
    cases h
    cases ds <;> cases xs <;> first | rfl | (simp at hl)
  | dict kvs =>
    obtain ⟨a, ks, rfl, ha, t⟩ := dr
    cases r
    obtain ⟨hz, hS, vs, rel, m⟩ : ks.length ≤ sizeLine ∧ (a == sysModules) = false ∧ ∃ vs, KV ks vs ∧ s.heap.DictOf (mixKind X.prog X.w) a vs := ha.ok I.hok
    have hlen : ks.length = vs.length := Paired.length rel
    have h1 := line63
    refine wpAny_truthy_dict hS m (by omega) ⟨H, I.tok _, ?_⟩
    rw [isEmpty_kv rel]
    cases h
    have : (!ks.isEmpty) = !kvs.isEmpty := by
      cases kvs with
      | nil =>
        have : ks = [] := by simpa [DRk] using t
        subst this; rfl
      | cons p r =>
        obtain ⟨k1, d1⟩ := p
        unfold DRk at t
        obtain ⟨key, v', r', e, _⟩ := t
        subst e; rfl
    rw [this]; exact q
end
end PV

namespace PV
open PySem PySem.Spec PyProof.Rows L2

/-- several values, the items frozen -/
def DR1s (K : PySem.W.Frag) (FH H : Hp) : List PyData → List V → Prop
  | [], vs => vs = []
  | d :: ds, vs => ∃ v r, vs = v :: r ∧ DR1 K FH H d v ∧ DR1s K FH H ds r
def rGc (K : PySem.W.Frag) (g : List PyData → Option Vl) : List V → Hp → VK → Prop := fun vs H Q => ∃ ds x FH, g ds = some x ∧ Same FH H ∧ DR1s K FH H ds vs ∧ ∀ v' H', ResOk K FH H x v' H' → Q v' H'

theorem ints_of : ∀ {ds : List PyData} {ns : List Int}, ints? ds = some ns → ds = ns.map .int
  | [], ns, h => by cases h; rfl
  | .int i :: ds, ns, h => by
    simp only [ints?] at h
    obtain ⟨r, h1, h2⟩ := Option.map_eq_some_iff.mp h
    rw [← h2, ints_of h1]; rfl
  | .none :: _, _, h => by cases h
  | .bool _ :: _, _, h => by cases h
  | .str _ :: _, _, h => by cases h
  | .list _ :: _, _, h => by cases h
  | .tuple _ :: _, _, h => by cases h
  | .dict _ :: _, _, h => by cases h
theorem bools_of : ∀ {ds : List PyData} {ns : List Bool}, bools? ds = some ns → ds = ns.map .bool
  | [], ns, h => by cases h; rfl
  | .bool i :: ds, ns, h => by
    simp only [bools?] at h
    obtain ⟨r, h1, h2⟩ := Option.map_eq_some_iff.mp h
    rw [← h2, bools_of h1]; rfl
  | .none :: _, _, h => by cases h
  | .int _ :: _, _, h => by cases h
  | .str _ :: _, _, h => by cases h
  | .list _ :: _, _, h => by cases h
  | .tuple _ :: _, _, h => by cases h
  | .dict _ :: _, _, h => by cases h
theorem strs_of : ∀ {ds : List PyData} {ns : List Str}, strs? ds = some ns → ds = ns.map .str
  | [], ns, h => by cases h; rfl
  | .str i :: ds, ns, h => by
    simp only [strs?] at h
    obtain ⟨r, h1, h2⟩ := Option.map_eq_some_iff.mp h
    rw [← h2, strs_of h1]; rfl
  | .none :: _, _, h => by cases h
  | .int _ :: _, _, h => by cases h
  | .bool _ :: _, _, h => by cases h
  | .list _ :: _, _, h => by cases h
  | .tuple _ :: _, _, h => by cases h
  | .dict _ :: _, _, h => by cases h
theorem insI_perm (x : Int) : ∀ l : List Int, (insI x l).Perm (x :: l)
  | [] => .refl _
  | y :: r => by
    unfold insI
    split
    · exact .refl _
    · exact ((insI_perm x r).cons y).trans (.swap x y r)
theorem insI_sorted (x : Int) : ∀ l : List Int, l.Pairwise (· ≤ ·) → (insI x l).Pairwise (· ≤ ·)
  | [], _ => by simp [insI]
  | y :: r, h => by
    have h' := List.pairwise_cons.mp h
    unfold insI
    split
    · next hxy =>
      refine List.pairwise_cons.mpr ⟨fun z hz => ?_, h⟩
      rcases List.mem_cons.mp hz with rfl | hz
      · exact hxy
      · exact Int.le_trans hxy (h'.1 z hz)
    · next hxy =>
      refine List.pairwise_cons.mpr ⟨fun z hz => ?_, insI_sorted x r h'.2⟩
      have hz' := (insI_perm x r).mem_iff.mp hz
      rcases List.mem_cons.mp hz' with rfl | hz'
      · omega
      · exact h'.1 z hz'
theorem sortI_perm : ∀ l : List Int, (sortI l).Perm l
  | [] => .refl _
  | x :: r => (insI_perm x (sortI r)).trans ((sortI_perm r).cons x)
theorem sortI_sorted : ∀ l : List Int, (sortI l).Pairwise (· ≤ ·)
  | [] => .nil
  | x :: r => insI_sorted x (sortI r) (sortI_sorted r)
theorem maxL_mem : ∀ (r : List Int) (x : Int), (r.foldl (fun m y => if y > m then y else m) x) ∈ x :: r ∧ ∀ y ∈ x :: r, y ≤ r.foldl (fun m y => if y > m then y else m) x
  | [], x => ⟨by simp, fun y hy => by simp at hy; simp [hy]⟩
  | z :: r, x => by
    have ih := maxL_mem r (if z > x then z else x)
    rw [List.foldl_cons]
    refine ⟨?_, fun y hy => ?_⟩
    · rcases List.mem_cons.mp ih.1 with e | e
      · rw [e]; split <;> simp
      · exact List.mem_cons_of_mem _ (List.mem_cons_of_mem _ e)
    · have h1 := ih.2 _ List.mem_cons_self
      rcases List.mem_cons.mp hy with rfl | hy
      · refine Int.le_trans ?_ h1; split <;> omega
      · rcases List.mem_cons.mp hy with rfl | hy
        · refine Int.le_trans ?_ h1; split <;> omega
        · exact ih.2 y (List.mem_cons_of_mem _ hy)
theorem minL_mem : ∀ (r : List Int) (x : Int), (r.foldl (fun m y => if y < m then y else m) x) ∈ x :: r ∧ ∀ y ∈ x :: r, r.foldl (fun m y => if y < m then y else m) x ≤ y
  | [], x => ⟨by simp, fun y hy => by simp at hy; simp [hy]⟩
  | z :: r, x => by
    have ih := minL_mem r (if z < x then z else x)
    rw [List.foldl_cons]
    refine ⟨?_, fun y hy => ?_⟩
    · rcases List.mem_cons.mp ih.1 with e | e
      · rw [e]; split <;> simp
      · exact List.mem_cons_of_mem _ (List.mem_cons_of_mem _ e)
    · have h1 := ih.2 _ List.mem_cons_self
      rcases List.mem_cons.mp hy with rfl | hy
      · refine Int.le_trans h1 ?_; split <;> omega
      · rcases List.mem_cons.mp hy with rfl | hy
        · refine Int.le_trans h1 ?_; split <;> omega
        · exact ih.2 y (List.mem_cons_of_mem _ hy)

/-! ### data as the library reads it -/
theorem keyD_reads {h : Heap} {k : Key} {u : Value} (e : keyIs k u = true) : Reads h u (keyD k) [] := by
  cases k with
  | inl i =>
    obtain ⟨t, rfl⟩ := Value.isInt_shape (k := i) (v := u) e
    exact .int i t
  | inr x =>
    obtain ⟨t, rfl⟩ := Value.isStrOf_shape (x := x) (v := u) e
    exact .str x t
section
variable {X : Cx} {pins : List (Addr × Obj)} {σ : Sto} {H : Hp} {s : Shared}
mutual
theorem DR.reads (I : Inv X pins σ H s) (hs : H sysModules = none) : ∀ (d : PyData) (v : V) (u : Value), DR X.K H d v → RelV v u → ∃ as, Reads s.heap u d as ∧ sysModules ∉ as
  | .none, v, u, h, r => by unfold DR at h; subst h; cases r; exact ⟨_, .none, by simp⟩
  | .bool b, v, u, h, r => by unfold DR at h; subst h; cases r; exact ⟨_, .bool b, by simp⟩
  | .int i, v, u, h, r => by unfold DR at h; subst h; obtain ⟨t, rfl⟩ := r; exact ⟨_, .int i t, by simp⟩
  | .str x, v, u, h, r => by unfold DR at h; subst h; obtain ⟨t, rfl⟩ := r; exact ⟨_, .str x t, by simp⟩
  | .list ds, v, u, h, r => by
    unfold DR at h
    obtain ⟨a, xs, e, ha, t⟩ := h
    subst e; cases r
    obtain ⟨_, its, n, rv, e⟩ := ha.ok I.hok
    obtain ⟨as, hr, hn⟩ := DRs.reads I hs ds xs its t rv
    refine ⟨a :: as, Reads.list e rfl rfl hr, ?_⟩
    intro hm
    rcases List.mem_cons.mp hm with z | z
    · rcases ha with q | ⟨o, q⟩ <;> rw [← z, hs] at q <;> cases q
    · exact hn z
  | .tuple ds, v, u, h, r => by
    unfold DR at h
    obtain ⟨a, xs, e, ha, t⟩ := h
    subst e; cases r
    obtain ⟨its, rv, ⟨o, ho, hc, n, hd⟩, _⟩ := I.tuple ha
    obtain ⟨as, hr, hn⟩ := DRs.reads I hs ds xs its t rv
    exact ⟨as, Reads.tuple ho hc hd hr, hn⟩
  | .dict kvs, v, u, h, r => by
    unfold DR at h
    obtain ⟨a, ks, e, ha, t⟩ := h
    subst e; cases r
    obtain ⟨_, hS, vs, rel, o, es, ep, ho, hx, hd, _, hp, _⟩ := ha.ok I.hok
    obtain ⟨as, bs, h1, h2, n1, n2⟩ := DRk.reads I hs kvs ks vs es.toList t rel hp
    refine ⟨_, Reads.dict ho hx.1 hd h1 h2, ?_⟩
    intro hm
    rcases List.mem_append.mp hm with z | z
    · rcases List.mem_cons.mp z with z | z
      · rw [← z] at hS; simp at hS
      · exact n1 z
    · exact n2 z
theorem DRs.reads (I : Inv X pins σ H s) (hs : H sysModules = none) : ∀ (ds : List PyData) (vs : List V) (us : List Value), DRs X.K H ds vs → Vals vs us → ∃ as, ReadsAll s.heap us ds as ∧ sysModules ∉ as
  | [], vs, us, h, r => by
    have h' : vs = [] := by simpa [DRs] using h
    subst h'; cases r
    exact ⟨_, .nil, by simp⟩
  | d :: ds, vs, us, h, r => by
    unfold DRs at h
    obtain ⟨v, rr, e, s1, t⟩ := h
    subst e
    cases r with
    | cons r1 r2 =>
      obtain ⟨as, q1, n1⟩ := DR.reads I hs d v _ s1 r1
      obtain ⟨bs, q2, n2⟩ := DRs.reads I hs ds rr _ t r2
      exact ⟨_, .cons q1 q2, by simp [n1, n2]⟩
theorem DRk.reads (I : Inv X pins σ H s) (hs : H sysModules = none) : ∀ (kvs : List (PyData × PyData)) (ks : List (Key × V)) (vs : List (Key × Value)) (es : List DictEntry), DRk X.K H kvs ks → KV ks vs → Pairs (mixKind X.prog X.w) es vs →
    ∃ as bs, ReadsAll s.heap (es.map (·.key)) (kvs.map (·.1)) as ∧ ReadsAll s.heap (es.map (·.val)) (kvs.map (·.2)) bs ∧ sysModules ∉ as ∧ sysModules ∉ bs
  | [], ks, vs, es, h, r, p => by
    have h' : ks = [] := by simpa [DRk] using h
    subst h'; cases r; cases p
    exact ⟨_, _, .nil, .nil, by simp, by simp⟩
  | (k, d) :: kvs, ks, vs, es, h, r, p => by
    unfold DRk at h
    obtain ⟨key, v, rr, e, ek, s1, t⟩ := h
    subst e ek
    cases r with
    | cons r1 r2 =>
      cases p with
      | cons p1 p2 p3 =>
        obtain ⟨as, bs, q1, q2, n1, n2⟩ := DRk.reads I hs kvs rr _ _ t r2 p3
        obtain ⟨cs, q3, n3⟩ := DR.reads I hs d v _ s1 r1.2
        rw [← p2] at q3
        rename_i qk ql qe qes
        have hk : keyIs key qe.key = true := by
          have h1 : key = qk.1 := r1.1
          rw [h1]; exact p1
        exact ⟨_, _, .cons (keyD_reads hk) q1, .cons q3 q2, by simp [n1], by simp [n2, n3]⟩
end
end

theorem DRk.len {K : PySem.W.Frag} {H : Hp} : ∀ {kvs : List (PyData × PyData)} {ks : List (Key × V)}, DRk K H kvs ks → kvs.length = ks.length
  | [], ks, t => by
    have t' : ks = [] := by simpa [DRk] using t
    subst t'; rfl
  | (k1, d1) :: kvs, ks, t => by
    unfold DRk at t
    obtain ⟨key, v', r', e, _, _, t'⟩ := t
    subst e
    rw [List.length_cons, List.length_cons, DRk.len t']
section
variable {X : Cx}
theorem len_ok : CallR X (.builtin "len") (rGc X.K (opBi .len)) := by
  intro pins s σ H xs us Q I r h
  obtain ⟨ds, x, FH, hg, sub, dr, q⟩ := h
  match ds, hg with
  | [d], hg =>
    unfold DR1s at dr
    obtain ⟨v, rr, rfl, dv, tl⟩ := dr
    have tl' : rr = [] := tl
    subst tl'
    obtain ⟨n, hn, rfl⟩ := Option.map_eq_some_iff.mp (show (lenD d).map (fun n => Vl.imm (.int n)) = some x from hg)
    cases d with
    | none => cases hn
    | bool _ => cases hn
    | int _ => cases hn
    | str z =>
      simp only [lenD] at hn
      split at hn
      · next hz => cases hn; cases dv; exact call_len pins s σ H _ us Q I r ⟨_, z.length, rfl, ⟨hz, rfl⟩, q _ _ res_int⟩
      · cases hn
    | list ds =>
      cases hn
      obtain ⟨a, ys, rfl, ha, t⟩ := dv
      exact call_len pins s σ H _ us Q I r ⟨_, ys.length, rfl, .inl ⟨ys, .inl ha, rfl⟩, by rw [← t.len]; exact q _ _ res_int⟩
    | tuple ds =>
      cases hn
      obtain ⟨a, ys, rfl, ha, t⟩ := dv
      exact call_len pins s σ H _ us Q I r ⟨_, ys.length, rfl, .inr ⟨ys, same_sqt sub ha, rfl⟩, by rw [← t.len]; exact q _ _ res_int⟩
    | dict kvs =>
      cases hn
      obtain ⟨a, ks, rfl, ha, t⟩ := dv
      obtain ⟨u, rfl, ru⟩ := vals1 r
      cases ru
      have e1 : kvs.length = ks.length := DRk.len t
      exact d_len I ha fun t' s' I' => ⟨.int ks.length, H, I', ⟨_, rfl⟩, by rw [← e1]; exact q _ _ res_int⟩
theorem abs_ok : CallR X (.builtin "abs") (rGc X.K (opBi .abs)) := by
  intro pins s σ H xs us Q I r h
  obtain ⟨ds, x, FH, hg, sub, dr, q⟩ := h
  match ds, hg with
  | [.int i], hg =>
    cases hg
    unfold DR1s at dr
    obtain ⟨v, rr, rfl, dv, tl⟩ := dr
    have tl' : rr = [] := tl
    subst tl'
    cases dv
    exact call_abs pins s σ H _ us Q I r ⟨i, rfl, q _ _ res_int⟩
theorem max_ok (hc : X.calm = true) : CallR X (.builtin "max") (rGc X.K (opBi .max)) := by
  intro pins s σ H xs us Q I r h
  obtain ⟨ds, x, FH, hg, sub, dr, q⟩ := h
  match ds, hg with
  | [.int i, .int j], hg =>
    cases hg
    unfold DR1s at dr
    obtain ⟨v, rr, rfl, dv, tl⟩ := dr
    unfold DR1s at tl
    obtain ⟨v2, rr2, rfl, dv2, tl⟩ := tl
    have tl' : rr2 = [] := tl
    subst tl'
    cases dv; cases dv2
    exact call_max2 hc pins s σ H _ us Q I r ⟨i, j, rfl, q _ _ res_int⟩
  | [.list ds], hg =>
    unfold DR1s at dr
    obtain ⟨v, rr, rfl, dv, tl⟩ := dr
    have tl' : rr = [] := tl
    subst tl'
    obtain ⟨a, ys, rfl, ha, t⟩ := dv
    simp only [opBi] at hg
    obtain ⟨ns, h1, h2⟩ := Option.bind_eq_some_iff.mp hg
    obtain ⟨n, h3, rfl⟩ := Option.map_eq_some_iff.mp h2
    have e1 := ints_of h1
    subst e1
    have e2 := DRs.intsV ns t
    subst e2
    cases ns with
    | nil => cases h3
    | cons z ns =>
      cases h3
      have hm := maxL_mem ns z
      refine cr_max hc pins s σ H _ us Q I r ⟨a, z :: ns, rfl, .inl ha, by simp, fun m hm1 hm2 => ?_⟩
      have e3 : m = ns.foldl (fun m y => if y > m then y else m) z := Int.le_antisymm (hm.2 m hm1) (hm2 _ hm.1)
      subst e3
      exact q _ _ res_int
theorem min_ok (hc : X.calm = true) : CallR X (.builtin "min") (rGc X.K (opBi .min)) := by
  intro pins s σ H xs us Q I r h
  obtain ⟨ds, x, FH, hg, sub, dr, q⟩ := h
  match ds, hg with
  | [.int i, .int j], hg =>
    cases hg
    unfold DR1s at dr
    obtain ⟨v, rr, rfl, dv, tl⟩ := dr
    unfold DR1s at tl
    obtain ⟨v2, rr2, rfl, dv2, tl⟩ := tl
    have tl' : rr2 = [] := tl
    subst tl'
    cases dv; cases dv2
    exact call_min2 hc pins s σ H _ us Q I r ⟨i, j, rfl, q _ _ res_int⟩
  | [.list ds], hg =>
    unfold DR1s at dr
    obtain ⟨v, rr, rfl, dv, tl⟩ := dr
    have tl' : rr = [] := tl
    subst tl'
    obtain ⟨a, ys, rfl, ha, t⟩ := dv
    simp only [opBi] at hg
    obtain ⟨ns, h1, h2⟩ := Option.bind_eq_some_iff.mp hg
    obtain ⟨n, h3, rfl⟩ := Option.map_eq_some_iff.mp h2
    have e1 := ints_of h1
    subst e1
    have e2 := DRs.intsV ns t
    subst e2
    cases ns with
    | nil => cases h3
    | cons z ns =>
      cases h3
      have hm := minL_mem ns z
      refine cr_min hc pins s σ H _ us Q I r ⟨a, z :: ns, rfl, .inl ha, by simp, fun m hm1 hm2 => ?_⟩
      have e3 : m = ns.foldl (fun m y => if y < m then y else m) z := Int.le_antisymm (hm2 _ hm.1) (hm.2 m hm1)
      subst e3
      exact q _ _ res_int
theorem int_ok : CallR X (.type "int") (rGc X.K (opBi .int)) := by
  intro pins s σ H xs us Q I r h
  obtain ⟨ds, x, FH, hg, sub, dr, q⟩ := h
  match ds, hg with
  | [.int i], hg =>
    cases hg
    unfold DR1s at dr
    obtain ⟨v, rr, rfl, dv, tl⟩ := dr
    have tl' : rr = [] := tl
    subst tl'
    cases dv
    exact call_int1 pins s σ H _ us Q I r (.inl ⟨i, rfl, q _ _ res_int⟩)
  | [.bool i], hg =>
    cases hg
    unfold DR1s at dr
    obtain ⟨v, rr, rfl, dv, tl⟩ := dr
    have tl' : rr = [] := tl
    subst tl'
    cases dv
    exact call_int1 pins s σ H _ us Q I r (.inr ⟨i, rfl, q _ _ res_int⟩)
/-- the signs of a text, as a new list -/
theorem chars_of {K : PySem.W.Frag} {FH : Hp} (z : Str) : DRs K FH (chars z) (z.cps.toList.map fun c => V.str ⟨#[c]⟩) := by
  unfold chars
  generalize z.cps.toList = l
  induction l with
  | nil => exact .nil
  | cons c l ih => exact .cons (by unfold DR; rfl) ih
theorem signs_vals {x : Str} {acc : Array Value} (h : ItemsOf (SignAt x) acc x.cps.size) : Vals (x.cps.toList.map fun c => V.str ⟨#[c]⟩) acc.toList := by
  obtain ⟨h1, h2⟩ := h
  have gen : ∀ (l : List Nat) (us : List Value), us.length = l.length → (∀ (j : Nat) (v : Value), us[j]? = some v → ∃ c t, l[j]? = some c ∧ v = .str ⟨#[c]⟩ t) → Vals (l.map fun c => V.str ⟨#[c]⟩) us := by
    intro l
    induction l with
    | nil => intro us hl _; cases us with
      | nil => exact .nil
      | cons _ _ => simp at hl
    | cons c l ih =>
      intro us hl hv
      cases us with
      | nil => simp at hl
      | cons u us =>
        refine .cons ?_ (ih us (by simpa using hl) fun j v hj => hv (j + 1) v (by simpa using hj))
        obtain ⟨c', t, e1, e2⟩ := hv 0 u rfl
        simp at e1; subst e1
        exact ⟨t, e2⟩
  refine gen _ _ (by simp [h1]) fun j v hj => ?_
  obtain ⟨c, t, e1, e2⟩ := h2 j v (by simpa using hj)
  exact ⟨c, t, by simpa using e1, e2⟩
theorem list_ok (hc : X.calm = true) : CallR X (.type "list") (rGc X.K (opBi .list)) := by
  intro pins s σ H xs us Q I r h
  obtain ⟨ds, x, FH, hg, sub, dr, q⟩ := h
  match ds, hg with
  | [.list ds], hg =>
    cases hg
    unfold DR1s at dr
    obtain ⟨v, rr, rfl, dv, tl⟩ := dr
    have tl' : rr = [] := tl
    subst tl'
    obtain ⟨a, ys, rfl, ha, t⟩ := dv
    exact call_list_of pins s σ H _ us Q I r ⟨a, ys, rfl, .inl (.inl ha), fun l hl => q _ _ (res_lst hl t)⟩
  | [.tuple ds], hg =>
    cases hg
    unfold DR1s at dr
    obtain ⟨v, rr, rfl, dv, tl⟩ := dr
    have tl' : rr = [] := tl
    subst tl'
    obtain ⟨a, ys, rfl, ha, t⟩ := dv
    exact call_list_of pins s σ H _ us Q I r ⟨a, ys, rfl, .inr (same_sqt sub ha), fun l hl => q _ _ (res_lst hl t)⟩
  | [.str z], hg =>
    simp only [opBi] at hg
    split at hg
    · next hz =>
      cases hg
      unfold DR1s at dr
      obtain ⟨v, rr, rfl, dv, tl⟩ := dr
      have tl' : rr = [] := tl
      subst tl'
      cases dv
      obtain ⟨u, rfl, tk, rfl⟩ := vals1 r
      refine PySem.call_list_str (I.ok.hd hc) z tk (fun h' tk' acc c' hk ho hi => ?_) hz
      have hv := signs_vals hi
      refine ⟨.ref s.heap.objs.size, upd H s.heap.objs.size (.lst (z.cps.toList.map fun c => V.str ⟨#[c]⟩)), ?_, rfl, q _ _ (res_lst (I.hok.fresh (Nat.le_refl _)) (chars_of z))⟩
      refine I.laid (t' := tk') hk (Nat.le_refl _) ⟨?_, acc.toList, c', hv, by simpa using ho⟩
      rw [hv.length, Array.length_toList, hi.1]; exact hz
    · cases hg
theorem tuple_ok : CallR X (.type "tuple") (rGc X.K (opBi .tuple)) := by
  intro pins s σ H xs us Q I r h
  obtain ⟨ds, x, FH, hg, sub, dr, q⟩ := h
  match ds, hg with
  | [.list ds], hg =>
    cases hg
    unfold DR1s at dr
    obtain ⟨v, rr, rfl, dv, tl⟩ := dr
    have tl' : rr = [] := tl
    subst tl'
    obtain ⟨a, ys, rfl, ha, t⟩ := dv
    exact call_tuple_of pins s σ H _ us Q I r ⟨a, ys, rfl, .inl ⟨.inl ha, fun l hl => q _ _ (res_tup hl t)⟩⟩
  | [.tuple ds], hg =>
    cases hg
    unfold DR1s at dr
    obtain ⟨v, rr, rfl, dv, tl⟩ := dr
    have tl' : rr = [] := tl
    subst tl'
    obtain ⟨a, ys, rfl, ha, t⟩ := dv
    exact call_tuple_of pins s σ H _ us Q I r ⟨a, ys, rfl, .inr ⟨same_sqt sub ha, q _ _ (res_sc (by unfold DR; exact ⟨a, ys, rfl, ha, t⟩))⟩⟩
theorem sum_ok (hc : X.calm = true) : CallR X (.builtin "sum") (rGc X.K (opBi .sum)) := by
  intro pins s σ H xs us Q I r h
  obtain ⟨ds, x, FH, hg, sub, dr, q⟩ := h
  match ds, hg with
  | [.list ds], hg =>
    unfold DR1s at dr
    obtain ⟨v, rr, rfl, dv, tl⟩ := dr
    have tl' : rr = [] := tl
    subst tl'
    obtain ⟨a, ys, rfl, ha, t⟩ := dv
    simp only [opBi] at hg
    obtain ⟨ns, h1, rfl⟩ := Option.map_eq_some_iff.mp hg
    have e1 := ints_of h1
    subst e1
    have e2 := DRs.intsV ns t
    subst e2
    exact cr_sum hc pins s σ H _ us Q I r ⟨a, ns, rfl, .inl ha, q _ _ res_int⟩
theorem any_ok (hc : X.calm = true) : CallR X (.builtin "any") (rGc X.K (opBi .any)) := by
  intro pins s σ H xs us Q I r h
  obtain ⟨ds, x, FH, hg, sub, dr, q⟩ := h
  match ds, hg with
  | [.list ds], hg =>
    unfold DR1s at dr
    obtain ⟨v, rr, rfl, dv, tl⟩ := dr
    have tl' : rr = [] := tl
    subst tl'
    obtain ⟨a, ys, rfl, ha, t⟩ := dv
    simp only [opBi] at hg
    obtain ⟨ns, h1, rfl⟩ := Option.map_eq_some_iff.mp hg
    have e1 := bools_of h1
    subst e1
    have e2 := DRs.blsV ns t
    subst e2
    exact cr_any hc pins s σ H _ us Q I r ⟨a, ns, rfl, .inl ha, q _ _ res_bl⟩
theorem all_ok (hc : X.calm = true) : CallR X (.builtin "all") (rGc X.K (opBi .all)) := by
  intro pins s σ H xs us Q I r h
  obtain ⟨ds, x, FH, hg, sub, dr, q⟩ := h
  match ds, hg with
  | [.list ds], hg =>
    unfold DR1s at dr
    obtain ⟨v, rr, rfl, dv, tl⟩ := dr
    have tl' : rr = [] := tl
    subst tl'
    obtain ⟨a, ys, rfl, ha, t⟩ := dv
    simp only [opBi] at hg
    obtain ⟨ns, h1, rfl⟩ := Option.map_eq_some_iff.mp hg
    have e1 := bools_of h1
    subst e1
    have e2 := DRs.blsV ns t
    subst e2
    exact cr_all hc pins s σ H _ us Q I r ⟨a, ns, rfl, .inl ha, q _ _ res_bl⟩
theorem sorted_ok : CallR X (.builtin "sorted") (rGc X.K (opBi .sorted)) := by
  intro pins s σ H xs us Q I r h
  obtain ⟨ds, x, FH, hg, sub, dr, q⟩ := h
  match ds, hg with
  | [.list ds], hg =>
    unfold DR1s at dr
    obtain ⟨v, rr, rfl, dv, tl⟩ := dr
    have tl' : rr = [] := tl
    subst tl'
    obtain ⟨a, ys, rfl, ha, t⟩ := dv
    simp only [opBi] at hg
    obtain ⟨ns, h1, rfl⟩ := Option.map_eq_some_iff.mp hg
    have e1 := ints_of h1
    subst e1
    have e2 := DRs.intsV ns t
    subst e2
    refine cr_sortedI pins s σ H _ us Q I r ⟨a, ns, rfl, .inl ha, fun ns' p hp hs hn => ?_⟩
    have e3 : ns' = sortI ns := PySem.W.ksm_same (hp.trans (sortI_perm ns).symm) hs (sortI_sorted ns)
    subst e3
    exact q _ _ (res_lst hn (DRs.ints _))

/-- repr of any data -/
theorem repr_ok (hg : X.A.guards = some []) (hu : X.A.units + 65 < cLine) (hsys : ∃ o, X.base.get? sysModules = some o) : CallR X (.builtin "repr") (rGc X.K (opBi .repr)) := by
  intro pins s σ H xs us Q I r h
  obtain ⟨ds, x, FH, hgg, sub, dr, q⟩ := h
  match ds, hgg with
  | [d], hgg =>
    unfold DR1s at dr
    obtain ⟨v, rr, rfl, dv, tl⟩ := dr
    have tl' : rr = [] := tl
    subst tl'
    obtain ⟨u, rfl, ru⟩ := vals1 r
    have hgg' : (if d.showable = true ∧ d.depth ≤ 60 ∧ d.shown.length ≤ sizeLine then some (Vl.imm (.str d.shown)) else none) = some x := hgg
    split at hgg'
    · next hc =>
      cases hgg'
      obtain ⟨c1, c2, c3⟩ := hc
      have fin : ∀ (h' : Heap) (tk tk' : Nat), (∀ b o, s.heap.get? b = some o → h'.get? b = some o) → EP X pins σ Q (.str d.shown tk) { s with heap := h', toks := tk' } := fun h' tk tk' hk =>
        ⟨.str d.shown, H, I.kept (t' := tk') hk, ⟨_, rfl⟩, q _ _ res_str⟩
      have refs : ∀ a, u = .ref a → wpAny (model X.prog X.w) X.A (call (.builtin "repr") [u]) (EP X pins σ Q) X.xe s := fun a ea => by
        obtain ⟨os, hos⟩ := hsys
        obtain ⟨as, hr, hn⟩ := DR.reads I (I.bs _ _ hos).2 d v u (dv.full sub) ru
        subst ea
        exact repr_of_reads' hr c1 (fun _ => hn) hg (by omega) (fun _ _ e => e) (fun h' tk tk' hk => fin h' tk tk' hk) c3
      cases d with
      | none =>
        cases dv; cases ru
        exact PySem.P.repr_of_none ⟨.str "None", H, I.tok _, ⟨_, rfl⟩, q _ _ (by simpa [PyData.shown] using res_str)⟩
      | bool b =>
        cases dv; cases ru
        refine PySem.P.repr_of_bool ⟨.str (if b then "True" else "False"), H, I.tok _, ?_, q _ _ (by simpa [PyData.shown] using res_str)⟩
        exact ⟨_, rfl⟩
      | int i =>
        cases dv
        obtain ⟨t, rfl⟩ := ru
        exact PySem.P.repr_of_int (by simpa [PyData.showable] using c1) ⟨.str (toString i), H, I.tok _, ⟨_, rfl⟩, q _ _ (by simpa [PyData.shown] using res_str)⟩
      | str z =>
        cases dv
        obtain ⟨t, rfl⟩ := ru
        exact PySem.P.repr_of_str ⟨.str (reprText z), H, I.tok _, ⟨_, rfl⟩, q _ _ (by simpa [PyData.shown] using res_str)⟩ (by simpa [PyData.shown] using c3)
      | list ds => obtain ⟨a, _, rfl, _⟩ := dv; cases ru; exact refs a rfl
      | tuple ds => obtain ⟨a, _, rfl, _⟩ := dv; cases ru; exact refs a rfl
      | dict kvs => obtain ⟨a, _, rfl, _⟩ := dv; cases ru; exact refs a rfl
    · cases hgg'

/-! ### isinstance -/
def tyD : PyData → String
  | .none => "NoneType" | .bool _ => "bool" | .int _ => "int" | .str _ => "str" | .list _ => "list" | .tuple _ => "tuple" | .dict _ => "dict"
def tyN : Nat → String
  | 0 => "int" | 1 => "bool" | 2 => "str" | 3 => "list" | 4 => "tuple" | _ => "dict"
theorem ty_of {K : PySem.W.Frag} {FH H : Hp} {d : PyData} {v : V} (sub : Same FH H) (r : DR1 K FH H d v) : TyX K H v (.type (tyD d)) := by
  cases d with
  | none => cases r; exact .base .non
  | bool b => cases r; exact .base (.bl b)
  | int b => cases r; exact .base (.int b)
  | str b => cases r; exact .base (.str b)
  | list ds =>
    obtain ⟨a, xs, rfl, h, _⟩ := r
    rcases h with h | ⟨o, h⟩
    · exact .base (.lst h)
    · exact .base (.frz h)
  | tuple ds =>
    obtain ⟨a, xs, rfl, h, _⟩ := r
    rcases same_sqt sub h with (h | ⟨o, h⟩) | ⟨o, its, n, hk, hc, _⟩
    · exact .base (.tup h)
    · exact .fTuple h
    · exact .kTuple hk hc
  | dict kvs =>
    obtain ⟨a, xs, rfl, h, _⟩ := r
    rcases h with h | ⟨o, h⟩
    · exact .base (.dK h)
    · exact .fDict h
theorem isi_tab (T : Nat) (hT : T < 6) (d : PyData) : kitB (tyD d) (tyN T) = some (isiD T d) := by
  have : ∀ T : Nat, T < 6 → kitB "NoneType" (tyN T) = some false ∧ kitB "bool" (tyN T) = some (T == 0 || T == 1) ∧ kitB "int" (tyN T) = some (T == 0) ∧ kitB "str" (tyN T) = some (T == 2) ∧
      kitB "list" (tyN T) = some (T == 3) ∧ kitB "tuple" (tyN T) = some (T == 4) ∧ kitB "dict" (tyN T) = some (T == 5) := by
    intro T hT
    match T, hT with
    | 0, _ => decide +kernel
    | 1, _ => decide +kernel
    | 2, _ => decide +kernel
    | 3, _ => decide +kernel
    | 4, _ => decide +kernel
    | 5, _ => decide +kernel
  obtain ⟨h0, h1, h2, h3, h4, h5, h6⟩ := this T hT
  cases d with
  | none => exact h0
  | bool _ => exact h1
  | int _ => exact h2
  | str _ => exact h3
  | list _ => exact h4
  | tuple _ => exact h5
  | dict _ => exact h6

/-! ### subscripts, slices -/
theorem atI_rel {K : PySem.W.Frag} {FH : Hp} {ds : List PyData} {xs : List V} {i : Int} {d : PyData} (t : DRs K FH ds xs) (h : atI ds i = some d) : ∃ v, atI xs i = some v ∧ DR K FH d v := by
  unfold atI at h ⊢
  rw [← t.len]
  obtain ⟨j, h1, h2⟩ := Option.bind_eq_some_iff.mp h
  obtain ⟨v, h3, h4⟩ := t.get j d h2
  exact ⟨v, by rw [h1]; exact h3, h4⟩
theorem ix_dict (hu : X.A.units + 65 < cLine) {value slice : Expr} {pins : List (Addr × Obj)} {s : Shared} {σ : Sto} {H : Hp} {a : Addr} {y v : V} {u : Value} {Q : VK} (I : Inv X pins σ H s) (g : DGet H a y (some v)) (ry : RelV y u)
    (hs : subscripted slice false (.ref a) u = operate [.ref a, u] (getItem (.ref a) u)) (q : Q v H) : wpAny (model X.prog X.w) X.A (subscriptTail value slice (.ref a) u) (EP X pins σ Q) X.xe s :=
  tail_any (dict_typeIs I g) PySem.F.slot_dict_getitem.lookup (d_getItem (by omega) I g ry fun w' s3 I3 rw' => ⟨v, H, I3, rw', q⟩) hs
theorem sub_ok (hu : X.A.units + 65 < cLine) : IxR X (rG2 X.K fun d e => (subD d e).map .imm) := by
  intro value slice pins s σ H x y v u Q I rx ry h hs
  obtain ⟨d, e, z, FH, hg, sub, r1, r2, q⟩ := h
  obtain ⟨c, hc, rfl⟩ := Option.map_eq_some_iff.mp hg
  cases d with
  | none => cases hc
  | bool _ => cases hc
  | int _ => cases hc
  | list ds =>
    cases e with
    | int i =>
      obtain ⟨a, xs, rfl, ha, t⟩ := r1
      cases r2
      obtain ⟨w, h1, h2⟩ := atI_rel t hc
      exact ix_list value slice pins s σ H _ _ v u Q I rx ry ⟨a, xs, i, w, rfl, rfl, .inl ha, h1, q _ _ (res_sc h2)⟩ hs
    | _ => cases hc
  | tuple ds =>
    cases e with
    | int i =>
      obtain ⟨a, xs, rfl, ha, t⟩ := r1
      cases r2
      obtain ⟨w, h1, h2⟩ := atI_rel t hc
      exact ix_tup value slice pins s σ H _ _ v u Q I rx ry ⟨a, xs, i, w, rfl, rfl, same_sqt sub ha, h1, q _ _ (res_sc h2)⟩ hs
    | _ => cases hc
  | str z =>
    cases e with
    | int i =>
      cases r1; cases r2
      simp only [subD] at hc
      split at hc
      · next hz =>
        obtain ⟨cc, h1, rfl⟩ := Option.map_eq_some_iff.mp hc
        exact ix_str value slice pins s σ H _ _ v u Q I rx ry ⟨z, i, cc, rfl, rfl, hz, h1, q _ _ res_str⟩ hs
      · cases hc
    | _ => cases hc
  | dict kvs =>
    simp only [subD] at hc
    split at hc
    · next hk =>
      obtain ⟨a, ks, rfl, ha, t⟩ := r1
      obtain ⟨key, rfl, e1⟩ := key_of hk r2
      subst e1
      rcases look_rel t key with ⟨h1, h2⟩ | ⟨w, d', h1, h2, h3⟩
      · rw [h2] at hc; cases hc
      · rw [h2] at hc; cases hc
        cases rx
        exact ix_dict hu I (.inl ⟨ks, key, ha, rfl, h1.symm⟩) ry hs (q _ _ (res_sc h3))
    · cases hc
theorem cut_rel {K : PySem.W.Frag} {FH : Hp} {ds : List PyData} {xs : List V} (t : DRs K FH ds xs) (lo hi : Option Int) : DRs K FH (cutD ds lo hi) (cutV xs lo hi) := by
  unfold cutD cutV
  rw [← t.len]
  exact (t.drop _).take _
end
end PV

namespace PV
open PySem PySem.Spec PyProof.Rows L2

/-! ### a def's promise where nothing is being written out (repr), and the system's modules stand -/
structure FnG (P : Program) (w : World) (K : PySem.W.Frag) (mg : Str → Option Value) (base : Heap) (k : Nat) (f : Addr) (fd : FuncData) (ps : List Str) (sp : Sp) : Prop where
  len : ∀ vs H Q E, sp vs H Q E → vs.length = ps.length
  run : ∀ (A : Around) (outer : List Env) (s : Shared) (H : Hp) (args : Args) (us : List Value) (vs : List V) (Q : VK) (E : XK), Room k A → A.guards = some [] → Env0 P w K mg base A outer s H → BindsTo s fd args (ps.zip us) → Vals vs us →
    sp vs H Q E → codeAny (model P w) A (.call (.ref f) args) (CR (L2.CX P w) outer P w H s Q E) s
/-- how the written values come to the parameters -/
structure Shp (K : PySem.W.Frag) (fd : FuncData) (ps : List Str) (n : Nat) (ks : List Str) (src : List (Option Nat)) : Prop where
  to : ∀ (s : Shared) (us ws : List Value), K.In s.heap → us.length = n → ws.length = ks.length → BindsTo s fd ⟨us, ks.zip ws⟩ (ps.zip (place src (us ++ ws) .none))
theorem vals_place {vs : List V} {us : List Value} (r : Vals vs us) (src : List (Option Nat)) : Vals (place src vs .non) (place src us .none) := by
  unfold place
  induction src with
  | nil => exact .nil
  | cons o src ih =>
    refine .cons ?_ ih
    cases o with
    | none => exact rfl
    | some i =>
      show RelV (vs.getD i .non) (us.getD i .none)
      cases h : vs[i]? with
      | none =>
        have h2 := r.none_of h
        rw [List.getD_eq_getElem?_getD, List.getD_eq_getElem?_getD, h, h2]; exact rfl
      | some v =>
        obtain ⟨u, h2, h3⟩ := r.get h
        rw [List.getD_eq_getElem?_getD, List.getD_eq_getElem?_getD, h, h2]; exact h3
def isStar : Expr → Bool
  | .Starred .. => true
  | _ => false
theorem star_cons {e : Expr} {es : List Expr} {env : Env} (h : isStar e = false) : starEach (e :: es) env = (false, eval e env) :: starEach es env := by
  cases e <;> first | rfl | cases h
theorem star_none {env : Env} {pos : Pos} : ∀ {es : List Expr}, (es.all fun e => !isStar e) = true → (backTo pos (starEach es env)).any (·.1) = false
  | [], _ => rfl
  | e :: es, h => by
    rw [List.all_cons, Bool.and_eq_true] at h
    rw [star_cons (by simpa using h.1)]
    have ih := star_none (env := env) (pos := pos) h.2
    unfold backTo at ih ⊢
    rw [List.map_cons, List.any_cons, ih]; rfl
def kwName : Keyword → Option Str
  | ⟨n, _, _⟩ => n
def kwVal : Keyword → Expr
  | ⟨_, v, _⟩ => v
theorem kw_names {env : Env} {pos : Pos} : ∀ (kws : List Keyword), (backToKw pos (keywordEach kws env)).map (·.1) = kws.map kwName
  | [] => rfl
  | ⟨n, v, p⟩ :: kws => by
    have ih := kw_names (env := env) (pos := pos) kws
    unfold backToKw at ih ⊢
    unfold keywordEach
    rw [List.map_cons, List.map_cons, List.map_cons, ih]; rfl
theorem kw_all0 : ∀ (ks : List Str) (l : List (Option Str × Sem Value)), l.map (·.1) = ks.map some → l.all (·.1.isSome) = true ∧ l.filterMap (·.1) = ks ∧ l.any (·.1.isNone) = false
  | [], l, h => by
    have : l = [] := by simpa using h
    subst this; exact ⟨rfl, rfl, rfl⟩
  | k :: ks, [], h => by simp at h
  | k :: ks, p :: l, h => by
    simp only [List.map_cons, List.cons.injEq] at h
    obtain ⟨a1, a2, a3⟩ := kw_all0 ks l h.2
    exact ⟨by rw [List.all_cons, a1, h.1]; rfl, by rw [List.filterMap_cons, h.1]; simp [a2], by rw [List.any_cons, a3, h.1]; rfl⟩
theorem kw_all {env : Env} {pos : Pos} {kws : List Keyword} {ks : List Str} (h : kws.map kwName = ks.map some) : (backToKw pos (keywordEach kws env)).all (·.1.isSome) = true ∧ (backToKw pos (keywordEach kws env)).filterMap (·.1) = ks ∧
    (backToKw pos (keywordEach kws env)).any (·.1.isNone) = false := kw_all0 ks _ ((kw_names (env := env) (pos := pos) kws).trans h)
section
variable {X : Cx} {k n : Nat} {f : Addr} {fd : FuncData} {ps ks : List Str} {sp : Sp} {E : Sto → XK} {x : Str} {p pos : Pos} {es : List Expr} {kws : List Keyword} {t tk : TA} {src : List (Option Nat)}
def tCallG (n m : Nat) (sp : Sp) (src : List (Option Nat)) (E : Sto → XK) (t tk : TA) : TE := fun σ H Q => t σ H fun vs H1 => tk σ H1 fun zs H2 => vs.length = n ∧ zs.length = m ∧ sp (place src (vs ++ zs) .non) H2 Q (E σ)
theorem run_fnG {pins : List (Addr × Obj)} {σ : Sto} {H : Hp} {s : Shared} {Q : VK} {us ws : List Value} {vs zs : List V} (F : FnG X.prog X.w X.K X.mg X.base k f fd ps sp) (hr : Room k X.A) (hgd : X.A.guards = some []) (S : Shp X.K fd ps n ks src)
    (hx : PassesAt (L2.CX X.prog X.w) X σ (E σ)) (I : Inv X pins σ H s) (r : Vals vs us) (rz : Vals zs ws) (l1 : vs.length = n) (l2 : zs.length = ks.length) (h : sp (place src (vs ++ zs) .non) H Q (E σ)) :
    wpAny (model X.prog X.w) X.A (call (.ref f) us (ks.zip ws)) (EP X pins σ Q) X.xe s := by
  have bnd := S.to s us ws I.kIn (r.length.symm.trans l1) (rz.length.symm.trans l2)
  refine wpAny_call (codeAny_mono (F.run X.A X.stack s H _ _ _ Q (E σ) hr hgd I.env0 bnd (vals_place (r.append rz) src) h) fun res s2 hq => ?_)
  match res, hq with
  | .error e, hq => exact hx pins H s e s2 I hq
  | .ok (.ret u), hq => exact I.after hq
theorem pe_callG (F : FnG X.prog X.w X.K X.mg X.base k f fd ps sp) (hr : Room k X.A) (hgd : X.A.guards = some []) (hg : Gl X x) (hm : X.mg x = some (.ref f)) (hk : PySem.W.keepIn X.K (.ref f) = true) (S : Shp X.K fd ps n ks src)
    (hx : ∀ σ, PassesAt (L2.CX X.prog X.w) X σ (E σ)) (ha : PA X es t) (hkw : PK X kws tk) (hnil : es = [] → ∀ σ H Q, t σ H Q → Q [] H) (hst : (es.all fun e => !isStar e) = true) (hkn : kws.map kwName = ks.map some) (hdb : (x == ("__debug__" : Str)) = false) :
    PE X (.Call (.Name x p) es kws pos) (tCallG n ks.length sp src E t tk) := by
  refine ⟨fun pins s σ H Q I h => ?_⟩
  obtain ⟨k1, k2, k3⟩ := kw_all (env := X.env) (pos := pos) hkn
  have hpl := star_none (env := X.env) (pos := pos) hst
  refine wpAny_Call_Name_kw (ld_glob I hg hm ?_ hdb)
  cases es with
  | nil =>
    have q := hnil rfl σ H _ h
    refine PySem.W.callWith_KW0 (h₀ := X.base) I.ok.mod.kin hk k1 ?_ (by rw [k3]; rfl)
    refine thn (hkw.run pos pins s σ H _ I q) fun ws s2 ⟨zs, H2, I2, rz, l1, l2, q2⟩ => ⟨I2.kIn, ?_⟩
    rw [k2]
    exact run_fnG F hr hgd S (hx σ) I2 (us := []) .nil rz l1 l2 q2
  | cons e es =>
    rw [List.all_cons, Bool.and_eq_true] at hst
    refine PySem.W.callWith_KW (h₀ := X.base) I.ok.mod.kin hk k1 (thn (ha.run pos pins s σ H _ I h) fun us s1 ⟨vs, H1, I1, r, q⟩ => ?_) (by rw [hpl, k3]; rfl) (star_cons (by simpa using hst.1))
    refine thn (hkw.run pos pins s1 σ H1 _ I1 q) fun ws s2 ⟨zs, H2, I2, rz, l1, l2, q2⟩ => ⟨I2.kIn, ?_⟩
    rw [k2]
    exact run_fnG F hr hgd S (hx σ) I2 r rz l1 l2 q2
end
end PV

namespace PV
open PySem PySem.Spec PyProof.Rows L2

/-! ### a call, seen from both sides -/
def spF (K : PySem.W.Frag) (T : XT) (np : Nat) (g : List Slot → COut) : Sp := fun vs H Q E => vs.length = np ∧ ∃ FH as, as.length = np ∧ Rl K FH (as.map some) (vs.map some) H ∧ match g as with
  | .ok x outs => ∀ FH' H' v, After K FH (as.map some) (vs.map some) H FH' (outs.map some) H' → ValR K FH' (outs.map some) (vs.map some) H H' v x → Q v H'
  | .exc x outs => ∀ FH' H' cls d, After K FH (as.map some) (vs.map some) H FH' (outs.map some) H' → ExR K T FH' H' x cls d → E cls d H'
  | .stuck => False

theorem headD_getD (ms : List Bool) : ms.headD false = ms.getD 0 false := by cases ms <;> rfl
theorem tail_getD (ms : List Bool) (j : Nat) : ms.tail.getD j false = ms.getD (j + 1) false := by cases ms <;> simp
theorem slotsOf_get {s : En} : ∀ {xs : List Vl} {ms : List Bool} {as : List Slot}, slotsOf s ms xs = some as → as.length = xs.length ∧ ∀ (j : Nat) (x : Vl), xs[j]? = some x → ∃ a, as[j]? = some a ∧ slotOf s (ms.getD j false) x = some a
  | [], ms, as, h => by
    have h' : some [] = some as := by simpa [slotsOf] using h
    cases h'
    exact ⟨rfl, fun j x hx => by simp at hx⟩
  | x :: xs, ms, as, h => by
    simp only [slotsOf] at h
    cases h1 : slotOf s (ms.headD false) x with
    | none => rw [h1] at h; cases h
    | some a =>
      cases h2 : slotsOf s ms.tail xs with
      | none => rw [h1, h2] at h; cases h
      | some r =>
        rw [h1, h2] at h; cases h
        obtain ⟨l, g⟩ := slotsOf_get h2
        refine ⟨by simp [l], fun j y hy => ?_⟩
        cases j with
        | zero => simp at hy; subst hy; exact ⟨a, rfl, by rw [← headD_getD]; exact h1⟩
        | succ j =>
          obtain ⟨b, h3, h4⟩ := g j y (by simpa using hy)
          exact ⟨b, by simpa using h3, by rw [← tail_getD]; exact h4⟩
theorem AgRs.len {K : PySem.W.Frag} {FH : Hp} {σ : Sto} : ∀ {vs : List V} {xs : List Vl}, AgRs K FH σ vs xs → vs.length = xs.length
  | [], xs, h => by have h' : xs = [] := h; subst h'; rfl
  | v :: vs, xs, h => by
    obtain ⟨x, r, rfl, _, t⟩ := h
    simp [AgRs.len t]
theorem AgRs.get {K : PySem.W.Frag} {FH : Hp} {σ : Sto} : ∀ {vs : List V} {xs : List Vl}, AgRs K FH σ vs xs → ∀ (j : Nat) (v : V), vs[j]? = some v → ∃ x, xs[j]? = some x ∧ AgR K FH σ v x
  | [], xs, h, j, v, hv => by simp at hv
  | v :: vs, xs, h, j, v', hv => by
    obtain ⟨x, r, rfl, a, t⟩ := h
    cases j with
    | zero => simp at hv; subst hv; exact ⟨x, rfl, a⟩
    | succ j => exact AgRs.get t j v' (by simpa using hv)
theorem AgRs.mono {K : PySem.W.Frag} {FH FH' : Hp} {σ : Sto} (h : Same FH FH') : ∀ {vs : List V} {xs : List Vl}, AgRs K FH σ vs xs → AgRs K FH' σ vs xs
  | [], xs, r => r
  | v :: vs, xs, r => by
    obtain ⟨x, rr, e, a, t⟩ := r
    exact ⟨x, rr, e, a.mono h, AgRs.mono h t⟩
theorem AgRs.append {K : PySem.W.Frag} {FH : Hp} {σ : Sto} : ∀ {vs us : List V} {xs ys : List Vl}, AgRs K FH σ vs xs → AgRs K FH σ us ys → AgRs K FH σ (vs ++ us) (xs ++ ys)
  | [], us, xs, ys, r, q => by have r' : xs = [] := r; subst r'; exact q
  | v :: vs, us, xs, ys, r, q => by
    obtain ⟨x, rr, rfl, a, t⟩ := r
    exact ⟨x, rr ++ ys, rfl, a, AgRs.append t q⟩
theorem AgRs.getV {K : PySem.W.Frag} {FH : Hp} {σ : Sto} : ∀ {vs : List V} {xs : List Vl}, AgRs K FH σ vs xs → ∀ (j : Nat) (x : Vl), xs[j]? = some x → ∃ v, vs[j]? = some v ∧ AgR K FH σ v x
  | [], xs, h, j, x, hx => by have h' : xs = [] := h; subst h'; simp at hx
  | v :: vs, xs, h, j, x', hx => by
    obtain ⟨x, r, rfl, a, t⟩ := h
    cases j with
    | zero => simp at hx; subst hx; exact ⟨v, rfl, a⟩
    | succ j => exact AgRs.getV t j x' (by simpa using hx)
theorem AgRs.place {K : PySem.W.Frag} {FH : Hp} {σ : Sto} {vs : List V} {xs : List Vl} (r : AgRs K FH σ vs xs) (src : List (Option Nat)) : AgRs K FH σ (place src vs .non) (place src xs (.imm .none)) := by
  have dn : AgR K FH σ .non (.imm .none) := by show DR K FH .none .non; unfold DR; rfl
  unfold PV.place
  induction src with
  | nil => exact rfl
  | cons o src ih =>
    refine ⟨_, _, rfl, ?_, ih⟩
    cases o with
    | none => exact dn
    | some i =>
      show AgR K FH σ (vs.getD i .non) (xs.getD i (.imm .none))
      rw [List.getD_eq_getElem?_getD, List.getD_eq_getElem?_getD]
      cases h : vs[i]? with
      | none =>
        have : xs[i]? = none := by
          rw [List.getElem?_eq_none_iff] at h ⊢
          rw [← r.len]; exact h
        rw [this]; exact dn
      | some v =>
        obtain ⟨x, h1, h2⟩ := r.get i v h
        rw [h1]; exact h2
theorem apart_get : ∀ {xs : List Vl} {ms : List Bool}, apart ms xs = true → ∀ (i j a : Nat), i < j → xs[i]? = some (.vr a) → xs[j]? = some (.vr a) → ms.getD i false = false ∧ ms.getD j false = false
  | [], ms, h, i, j, a, _, h1, _ => by simp at h1
  | x :: xs, ms, h, i, j, a, hij, h1, h2 => by
    simp only [apart, Bool.and_eq_true] at h
    cases j with
    | zero => omega
    | succ j =>
      have h2' : xs[j]? = some (.vr a) := by simpa using h2
      cases i with
      | succ i =>
        have ih := apart_get h.2 i j a (by omega) (by simpa using h1) h2'
        rw [tail_getD, tail_getD] at ih; exact ih
      | zero =>
        simp at h1; subst h1
        have hh := h.1
        simp only [Bool.not_eq_true'] at hh
        rw [List.any_eq_false] at hh
        obtain ⟨hj, ej⟩ := List.getElem?_eq_some_iff.mp h2'
        have hm : (Vl.vr a, ms.getD (j + 1) false) ∈ xs.zip (ms.tail ++ List.replicate xs.length false) := by
          have : (xs.zip (ms.tail ++ List.replicate xs.length false))[j]? = some (Vl.vr a, ms.getD (j + 1) false) := by
            rw [List.getElem?_zip_eq_some]
            refine ⟨h2', ?_⟩
            rw [← tail_getD, List.getD_eq_getElem?_getD]
            by_cases hl : j < ms.tail.length
            · rw [List.getElem?_append_left hl]
              rw [List.getElem?_eq_getElem hl]; rfl
            · rw [List.getElem?_append_right (by omega), List.getElem?_replicate, if_pos (by omega), List.getElem?_eq_none (by omega)]; rfl
          exact List.mem_of_getElem? this
        have := hh _ hm
        simp only [vrOf, decide_true, Bool.true_and, Bool.or_eq_true, not_or] at this
        rw [← headD_getD]
        exact ⟨by simpa using this.1, by simpa using this.2⟩
theorem apart_tail {x : Vl} {xs : List Vl} {ms : List Bool} (h : apart ms (x :: xs) = true) : apart ms.tail xs = true := by
  simp only [apart, Bool.and_eq_true] at h; exact h.2
/-- what back leaves of a slot -/
def BackAt (ms : List Bool) (xs : List Vl) (outs : List Slot) (s s' : En) (i : Nat) : Prop :=
  (s'[i]? = s[i]? ∧ ∀ (j : Nat) (d : PyData), xs[j]? = some (.vr i) → ms.getD j false = true → s[i]? ≠ some (some (Slot.own d))) ∨
  ∃ (j : Nat) (d : PyData) (o : Slot), xs[j]? = some (.vr i) ∧ ms.getD j false = true ∧ s[i]? = some (some (Slot.own d)) ∧ outs[j]? = some o ∧ s'[i]? = some (some o) ∧ ((∃ d', o = .own d') ∨ ∃ d', o = .imm d')
theorem back_at : ∀ {xs : List Vl} {ms : List Bool} {outs : List Slot} {s s' : En}, apart ms xs = true → back ms xs outs s = some s' → s'.length = s.length ∧ ∀ i, BackAt ms xs outs s s' i
  | [], ms, outs, s, s', _, h => by
    have h' : some s = some s' := by
      cases outs <;> simpa [back] using h
    cases h'
    exact ⟨rfl, fun i => .inl ⟨rfl, fun j d hj => by simp at hj⟩⟩
  | x :: xs, ms, [], s, s', _, h => by
    cases x <;> simp [back] at h
  | x :: xs, ms, o :: outs, s, s', ha, h => by
    -- the rest, from a state that differs at most at the head's slot
    have shift : ∀ (s1 : En) (i : Nat), s1[i]? = s[i]? → BackAt ms.tail xs outs s1 s' i → (∀ d, x = .vr i → ms.getD 0 false = true → s[i]? ≠ some (some (Slot.own d))) → BackAt ms (x :: xs) (o :: outs) s s' i := by
      intro s1 i e hb hx
      rcases hb with ⟨h1, h2⟩ | ⟨j, d, o', h1, h2, h3, h4, h5, h6⟩
      · refine .inl ⟨h1.trans e, fun j d hj hm => ?_⟩
        cases j with
        | zero => simp at hj; exact hx d hj hm
        | succ j => rw [← e]; exact h2 j d (by simpa using hj) (by rw [tail_getD]; exact hm)
      · exact .inr ⟨j + 1, d, o', by simpa using h1, by rw [← tail_getD]; exact h2, e ▸ h3, by simpa using h4, h5, h6⟩
    have plain : back ms.tail xs outs s = some s' → (∀ i d, x = .vr i → ms.getD 0 false = true → s[i]? ≠ some (some (Slot.own d))) → s'.length = s.length ∧ ∀ i, BackAt ms (x :: xs) (o :: outs) s s' i := fun h1 hx => by
      obtain ⟨l, g⟩ := back_at (apart_tail ha) h1
      exact ⟨l, fun i => shift s i rfl (g i) (hx i)⟩
    cases x with
    | imm d => exact plain (by simpa [back] using h) fun i d e => nomatch e
    | fresh d => exact plain (by simpa [back] using h) fun i d e => nomatch e
    | vr i =>
      simp only [back] at h
      cases hi : s[i]? with
      | none =>
        rw [hi] at h
        exact plain h fun i' d e _ => by cases e; rw [hi]; simp
      | some so =>
        rw [hi] at h
        cases so with
        | none => exact plain h fun i' d e _ => by cases e; rw [hi]; simp
        | some sl =>
          cases sl with
          | imm d0 => exact plain h fun i' d e _ => by cases e; rw [hi]; simp
          | lok d0 => exact plain h fun i' d e _ => by cases e; rw [hi]; simp
          | bor d0 => exact plain h fun i' d e _ => by cases e; rw [hi]; simp
          | own d0 =>
            by_cases hm : ms.headD false = true
            · simp only [if_pos hm] at h
              have hil : i < s.length := (List.getElem?_eq_some_iff.mp hi).1
              have go : ∀ o' : Slot, ((∃ d', o' = .own d') ∨ ∃ d', o' = .imm d') → o = o' → back ms.tail xs outs (s.set i (some o')) = some s' → s'.length = s.length ∧ ∀ i', BackAt ms (.vr i :: xs) (o :: outs) s s' i' := by
                intro o' ho' eo h1
                subst eo
                obtain ⟨l, g⟩ := back_at (apart_tail ha) h1
                refine ⟨by rw [l, List.length_set], fun i' => ?_⟩
                by_cases hii : i = i'
                · subst hii
                  rcases g i with ⟨h2, h3⟩ | ⟨j, d, o2, h2, h3, _⟩
                  · refine .inr ⟨0, d0, o, rfl, by rw [← headD_getD]; exact hm, hi, rfl, ?_, ho'⟩
                    rw [h2, List.getElem?_set_self hil]
                  · have := (apart_get ha 0 (j + 1) i (by omega) rfl (by simpa using h2)).1
                    rw [← headD_getD, hm] at this; cases this
                · refine shift _ i' ?_ (g i') fun d e _ => ?_
                  · rw [List.getElem?_set_ne hii]
                  · cases e; exact absurd rfl hii
              cases o with
              | own d' => exact go _ (.inl ⟨d', rfl⟩) rfl h
              | imm d' => exact go _ (.inr ⟨d', rfl⟩) rfl h
              | lok d' => cases h
              | bor d' => cases h
            · simp only [if_neg hm] at h
              exact plain h fun i' d e hm' => by rw [← headD_getD] at hm'; exact absurd hm' hm

section
variable {K : PySem.W.Frag} {T : XT} {FH H : Hp} {s : En} {σ : Sto}
theorem slotOf_vr {m : Bool} {i : Nat} {a : Slot} (h : slotOf s m (.vr i) = some a) : ∃ x, s[i]? = some (some x) ∧ x.dat = a.dat ∧ (a.mine = true → x.mine = true) ∧ (∀ d, a = .own d → m = true ∧ x = .own d) ∧ (a.mine = false → x.mine = false) := by
  simp only [slotOf] at h
  cases hi : s[i]? with
  | none => rw [hi] at h; cases h
  | some o =>
    rw [hi] at h
    cases o with
    | none => cases h
    | some x =>
      refine ⟨x, rfl, ?_⟩
      cases x with
      | imm d => cases h; exact ⟨rfl, fun z => z, fun d e => (by cases e), fun _ => rfl⟩
      | lok d => cases h; exact ⟨rfl, fun _ => rfl, fun d e => (by cases e), fun z => (by cases z)⟩
      | bor d => cases h; exact ⟨rfl, fun _ => rfl, fun d e => (by cases e), fun z => (by cases z)⟩
      | own d =>
        cases m with
        | true => cases h; exact ⟨rfl, fun _ => rfl, fun d e => (by cases e; exact ⟨rfl, rfl⟩), fun z => (by cases z)⟩
        | false => cases h; exact ⟨rfl, fun _ => rfl, fun d e => (by cases e), fun z => (by cases z)⟩
theorem call_link {vs : List V} {xs : List Vl} {ms : List Bool} {as : List Slot} (R : Rl K FH s σ H) (ag : AgRs K FH σ vs xs) (hap : apart ms xs = true) (hs : slotsOf s ms xs = some as) :
    as.length = vs.length ∧ Rl K FH (as.map some) (vs.map some) H ∧ ∀ (FH' H' : Hp) (outs : List Slot) (s' : En), After K FH (as.map some) (vs.map some) H FH' (outs.map some) H' → back ms xs outs s = some s' →
      After K FH s σ H FH' s' H' ∧ ∀ (v : V) (r : Vl), r.noVr = true → ValR K FH' (outs.map some) (vs.map some) H H' v r → ValR K FH' s' σ H H' v r := by
  obtain ⟨hl, hget⟩ := slotsOf_get hs
  have lv := ag.len
  -- a parameter's object and where it comes from
  have par : ∀ (j : Nat) (a : Slot), as[j]? = some a → ∃ v x, vs[j]? = some v ∧ xs[j]? = some x ∧ AgR K FH σ v x ∧ slotOf s (ms.getD j false) x = some a := fun j a ha => by
    have hj : j < xs.length := by rw [← hl]; exact (List.getElem?_eq_some_iff.mp ha).1
    have hx : xs[j]? = some xs[j] := List.getElem?_eq_getElem hj
    obtain ⟨v, h1, h2⟩ := ag.getV j _ hx
    obtain ⟨a', h3, h4⟩ := hget j _ hx
    rw [ha] at h3; cases h3
    exact ⟨v, _, h1, hx, h2, h4⟩
  have mineV : ∀ (j : Nat) (a : Slot), as[j]? = some a → a.mine = true → ∃ i x v, xs[j]? = some (.vr i) ∧ vs[j]? = some v ∧ σ[i]? = some (some v) ∧ s[i]? = some (some x) ∧ x.mine = true ∧ x.dat = a.dat ∧ ∀ d, a = .own d → ms.getD j false = true ∧ x = .own d := fun j a ha hm => by
    obtain ⟨v, x, h1, h2, h3, h4⟩ := par j a ha
    cases x with
    | imm d => have h4' : some (Slot.imm d) = some a := h4
               cases h4'; cases hm
    | fresh d => have h4' : some (Slot.imm d) = some a := h4
                 cases h4'; cases hm
    | vr i =>
      obtain ⟨x, q1, q2, q3, q4, _⟩ := slotOf_vr h4
      exact ⟨i, x, v, h2, h1, h3, q1, q3 hm, q2, q4⟩
  have R0 : Rl K FH (as.map some) (vs.map some) H := by
    refine ⟨R.sub, by simp [hl, lv], fun j a ha => ?_, fun i j p d b hij hi hu hp hj hm hq => ?_⟩
    · have ha' : as[j]? = some a := by
        rw [List.getElem?_map] at ha
        obtain ⟨a', e1, e2⟩ := Option.map_eq_some_iff.mp ha
        cases e2; exact e1
      obtain ⟨v, x, h1, h2, h3, h4⟩ := par j a ha'
      refine ⟨v, by rw [List.getElem?_map, h1]; rfl, ?_⟩
      cases x with
      | imm d => have h4' : some (Slot.imm d) = some a := h4
                 cases h4'; exact h3
      | fresh d => have h4' : some (Slot.imm d) = some a := h4
                   cases h4'; exact h3
      | vr i =>
        obtain ⟨x, q1, q2, q3, q4, q5⟩ := slotOf_vr h4
        obtain ⟨u, e1, r⟩ := R.slot i x q1
        have h3' : σ[i]? = some (some v) := h3
        rw [h3'] at e1; cases e1
        cases hmm : a.mine with
        | true =>
          obtain ⟨p, ep, n, t⟩ := r.mineD (q3 hmm)
          subst ep
          exact SlR.ofMine hmm n (by rw [← q2]; exact t)
        | false =>
          have hx := q5 hmm
          cases a with
          | imm d =>
            cases x with
            | imm d' => have q2' : d' = d := q2
                        subst q2'; exact r
            | own _ => cases hx
            | lok _ => cases hx
            | bor _ => cases hx
          | own _ => cases hmm
          | lok _ => cases hmm
          | bor _ => cases hmm
    · have hi' : as[i]? = some d := by
        rw [List.getElem?_map] at hi
        obtain ⟨a', e1, e2⟩ := Option.map_eq_some_iff.mp hi
        cases e2; exact e1
      have hj' : as[j]? = some b := by
        rw [List.getElem?_map] at hj
        obtain ⟨a', e1, e2⟩ := Option.map_eq_some_iff.mp hj
        cases e2; exact e1
      obtain ⟨i1, x1, v1, a1, a2, a3, a4, a5, a6, a7⟩ := mineV i d hi' (Slot.mine_of_uniq hu)
      obtain ⟨i2, x2, v2, b1, b2, b3, b4, b5, b6, b7⟩ := mineV j b hj' hm
      have e1 : v1 = .ref p := by
        rw [List.getElem?_map, a2] at hp
        exact Option.some.inj (Option.some.inj hp)
      have e2 : v2 = .ref p := by
        rw [List.getElem?_map, b2] at hq
        exact Option.some.inj (Option.some.inj hq)
      subst e1 e2
      -- d is own: slotsOf gives no lok
      have hown : ∃ dd, d = .own dd := by
        cases d with
        | own dd => exact ⟨dd, rfl⟩
        | imm _ => cases hu
        | bor _ => cases hu
        | lok dd =>
          obtain ⟨v, x, h1, h2, h3, h4⟩ := par i _ hi'
          rw [a1] at h2; cases h2
          simp only [slotOf, a4] at h4
          cases x1 <;> simp at h4
          split at h4 <;> cases h4
      obtain ⟨dd, rfl⟩ := hown
      obtain ⟨m1, ex1⟩ := a7 dd rfl
      subst ex1
      by_cases hii : i1 = i2
      · subst hii
        rcases Nat.lt_or_gt_of_ne hij with z | z
        · have := (apart_get hap i j i1 z a1 b1).1
          rw [m1] at this; cases this
        · have := (apart_get hap j i i1 z b1 a1).2
          rw [m1] at this; cases this
      · exact R.sep i1 i2 p _ x2 hii a4 rfl a3 b4 b5 b3
  refine ⟨by rw [hl, lv], R0, fun FH' H' outs s' A hb => ?_⟩
  obtain ⟨bl, bat⟩ := back_at hap hb
  -- the callee's own objects are the caller's
  have own0 : ∀ p, ownAt (as.map some) (vs.map some) p → ∃ i j d, xs[j]? = some (.vr i) ∧ ms.getD j false = true ∧ s[i]? = some (some (Slot.own d)) ∧ σ[i]? = some (some (V.ref p)) := fun p ⟨j, d, h1, h2⟩ => by
    have h1' : as[j]? = some (.own d) := by
      rw [List.getElem?_map] at h1
      obtain ⟨a', e1, e2⟩ := Option.map_eq_some_iff.mp h1
      cases e2; exact e1
    obtain ⟨i, x, v, a1, a2, a3, a4, a5, a6, a7⟩ := mineV j _ h1' rfl
    rw [List.getElem?_map, a2] at h2
    have e1 : v = .ref p := Option.some.inj (Option.some.inj h2)
    subst e1
    obtain ⟨m1, ex⟩ := a7 d rfl
    subst ex
    exact ⟨i, j, d, a1, m1, a4, a3⟩
  have S : Stp FH s σ H FH' s' σ H' := by
    refine ⟨A.st.fle, fun p o h no => A.st.keep p o h fun z => ?_, A.st.aloc, fun p h1 h2 no => A.st.fnew p h1 h2 fun z => ?_, fun p ⟨i, d, h1, h2⟩ => ?_, fun p ⟨i, d, h1, hm, h2⟩ => ?_, fun i d hi => ?_⟩
    · obtain ⟨i, j, d, _, _, q1, q2⟩ := own0 p z
      exact no ⟨i, d, q1, q2⟩
    · obtain ⟨i, j, d, _, _, q1, q2⟩ := own0 p z
      exact no ⟨i, d, q1, q2⟩
    · rcases bat i with ⟨e, _⟩ | ⟨j, d0, o, _, _, e, _⟩
      · exact .inl ⟨i, d, e ▸ h1, h2⟩
      · exact .inl ⟨i, d0, e, h2⟩
    · rcases bat i with ⟨e, _⟩ | ⟨j, d0, o, _, _, e, _⟩
      · exact .inl ⟨i, d, e ▸ h1, hm, h2⟩
      · exact .inl ⟨i, _, e, rfl, h2⟩
    · rcases bat i with ⟨e, _⟩ | ⟨j, d0, o, _, _, _, _, h5, h6⟩
      · exact ⟨e ▸ hi, rfl⟩
      · rw [h5] at hi; cases hi
        rcases h6 with ⟨_, z⟩ | ⟨_, z⟩ <;> cases z
  have was : ∀ (i : Nat) (x : Slot), s'[i]? = some (some x) → ∃ y, s[i]? = some (some y) ∧ (x.mine = true → y.mine = true) ∧ (x.uniq = true → y.uniq = true) := fun i x hx => by
    rcases bat i with ⟨e, _⟩ | ⟨j, d0, o, _, _, e, _⟩
    · exact ⟨x, e ▸ hx, fun z => z, fun z => z⟩
    · exact ⟨_, e, fun _ => rfl, fun _ => rfl⟩
  have R' : Rl K FH' s' σ H' := by
    refine ⟨A.rl.sub, bl.trans R.len, fun i x hx => ?_, fun i j p d b hij hi hu hp hj hm => ?_⟩
    · rcases bat i with ⟨e, hno⟩ | ⟨j, d0, o, h1, h2, h3, h4, h5, h6⟩
      · have hx0 : s[i]? = some (some x) := e ▸ hx
        obtain ⟨v, e1, r⟩ := R.slot i x hx0
        refine ⟨v, e1, ?_⟩
        cases hm : x.mine with
        | false =>
          cases x with
          | imm d' => exact DR.mono A.st.fle _ _ r
          | own d' => cases hm
          | lok d' => cases hm
          | bor d' => cases hm
        | true =>
          obtain ⟨p, ep, n, t⟩ := r.mineD hm
          subst ep
          obtain ⟨o, ho⟩ := t.ex
          have no : ¬ ownAt (as.map some) (vs.map some) p := fun z => by
            obtain ⟨i', j, d, q0, q1, q2, q3⟩ := own0 p z
            by_cases hii : i' = i
            · subst hii
              exact hno j d q0 q1 q2
            · exact R.sep i' i p _ x hii q2 rfl q3 hx0 hm e1
          refine SlR.ofMine hm (A.st.fnew p n (by rw [ho]; simp) no) (t.mono A.st.fle fun o' h' => A.st.keep p o' h' no)
      · rw [h5] at hx; cases hx
        obtain ⟨u, e1, r⟩ := A.rl.slot j x (by rw [List.getElem?_map, h4]; rfl)
        rw [List.getElem?_map] at e1
        obtain ⟨v, e2, e3⟩ := Option.map_eq_some_iff.mp e1
        cases e3
        obtain ⟨v', q1, q2⟩ := ag.getV j _ h1
        rw [e2] at q1; cases q1
        exact ⟨_, q2, r⟩
    · obtain ⟨y1, w1, _, w2⟩ := was i d hi
      obtain ⟨y2, z1, z2, _⟩ := was j b hj
      exact R.sep i j p y1 y2 hij w1 (w2 hu) hp z1 (z2 hm)
  refine ⟨⟨R', S⟩, fun v r hr rv => ?_⟩
  cases r with
  | vr i => cases hr
  | imm d => exact rv
  | fresh d =>
    obtain ⟨p, ep, n, np, t, ns⟩ := rv
    refine ⟨p, ep, n, np, t, fun i x hx hm z => ?_⟩
    obtain ⟨y, w1, w2, _⟩ := was i x hx
    obtain ⟨a, o, e1, ho, _⟩ := R.mineSome w1 (w2 hm)
    rw [z] at e1; cases e1
    rw [np] at ho; cases ho
end
end PV

namespace PV
open PySem PySem.Spec PyProof.Rows L2

/-! ### what the checker is given, what it leans on -/
structure Ck where
  cs : Nat → Option (Str × Nat × List Str)
  gn : Nat → Option Str
def bltNames : List Str := ["len", "abs", "max", "min", "int", "bool", "str", "list", "tuple", "sum", "sorted", "any", "all", "repr", "range", "enumerate", "zip", "isinstance", "dict", "set"]
/-- a call's shape is kept by a def of the program -/
structure FnS (P : Program) (w : World) (K : PySem.W.Frag) (mg : Str → Option Value) (base : Heap) (T : XT) (lv : Nat) (F : CF) (D : Ck) (G : Cf) (k : Nat) (x : Str) (n : Nat) (ks : List Str) : Prop where
  it : ∃ f fd ps, mg x = some (.ref f) ∧ PySem.W.keepIn K (.ref f) = true ∧ Shp K fd ps n ks (G.shapes k).src ∧ ps.length = (G.shapes k).src.length ∧ FnG P w K mg base lv f fd ps (spF K T ps.length (F (G.shapes k).f))
structure Good (X : Cx) (T : XT) (W : WX) (G : Cf) (F : CF) (D : Ck) (lv : Nat) (dfn : Bool) (N : List Str) (sc : Scope) : Prop where
  scp : X.env.scope = sc
  nm : X.N = N
  nod : N.Nodup
  calm : X.calm = true
  gd : X.A.guards = some []
  sys : ∃ o, X.base.get? sysModules = some o
  room : Room lv X.A
  px : ∀ σ, PassesAt (L2.CX X.prog X.w) X σ (fun cls d H => W cls d σ H)
  bl : ∀ x ∈ bltNames, X.mg x = none
  fc : dfn = true → ∀ x, X.fn x = true
  gl : ∀ k x, D.gn k = some x → ∃ u v, X.mg x = some u ∧ RelV v u ∧ DR X.K (fun _ => none) (G.gc k) v
  fn : ∀ k x n ks, D.cs k = some (x, n, ks) → FnS X.prog X.w X.K X.mg X.base T lv F D G k x n ks

def noDbg (x : Str) : Bool := !(x == ("__debug__" : Str)) && !(x == ("__classdict__" : Str))
def visB (sc : Scope) (x : Str) : Bool := match sc.names.lookup x with
  | some .local => true
  | some .cell => true
  | some .free => true
  | _ => false
def glB (sc : Scope) (x : Str) : Bool := decide (sc.names.lookup x = some .globalImplicit) && noDbg x
theorem visB_ok {sc : Scope} {x : Str} (h : visB sc x = true) : Vis sc x := by
  unfold visB at h
  unfold Vis
  split at h
  · next e => exact .inl e
  · next e => exact .inr (.inl e)
  · next e => exact .inr (.inr e)
  · cases h
theorem noDbg_ok {x : Str} (h : noDbg x = true) : (x == ("__debug__" : Str)) = false ∧ (x == ("__classdict__" : Str)) = false := by
  unfold noDbg at h
  rw [Bool.and_eq_true] at h
  exact ⟨by simpa using h.1, by simpa using h.2⟩

/-! ### truth, tests -/
section
variable {X : Cx} {T : XT} {W : WX}
theorem peA {x : Expr} {ev : En → Out Vl} (h : PE X x (tE X.K T W ev)) : PE X x (tA X.K T W ev) := pe_imp h fun _ _ _ q => tE_of_A q
theorem peF {x : Expr} {ev : En → Out Vl} (h : PE X x (tE X.K T W ev)) : PE X x (tF X.K T W (frz ev)) := pe_imp h fun _ _ _ q => tE_of_F q
/-- the outcome of a value's truth -/
theorem tru_end {pins : List (Addr × Obj)} {s : Shared} {σ : Sto} {H FH0 FH H0 : Hp} {e0 e : En} {x : Vl} {v : V} {u : Value} {Q : Bool → Hp → Prop} (I : Inv X pins σ H s) (r : RelV v u) (A : After X.K FH0 e0 σ H0 FH e H) (rv : AgR X.K FH σ v x)
    (h : ∃ k, (rdv e x).bind truD = some k ∧ Q k H) : wpAny (model X.prog X.w) X.A (truthy u) (TP X pins σ Q) X.xe s := by
  obtain ⟨k, h, q⟩ := h
  cases hx : rdv e x with
  | none => rw [hx] at h; cases h
  | some d =>
    rw [hx] at h
    exact tru_data (FH := FH) I r A.rl.sub (rv.rd A.rl hx) h q
/-- an expression's value as a test -/
theorem pt_of {x : Expr} {ev : En → Out Vl} (h : PE X x (tE X.K T W ev)) (he : ∀ whole, isTrue x X.env whole = (do let v ← whole; standAt x.pos; holding [v] (truthy v))) : PT X x (tQ X.K T W (tests ev)) := by
  refine ⟨fun pins s σ H Q I hw => ?_⟩
  obtain ⟨FH, e, R, hw⟩ := hw
  unfold tests at hw
  refine isTrue_plain (thn ((peA h).run pins s σ H (fun v H1 => ∃ FH1 e1 y, After X.K FH e σ H FH1 e1 H1 ∧ AgR X.K FH1 σ v y ∧ ∃ k, (rdv e1 y).bind truD = some k ∧ Q k H1) I ⟨FH, e, R, hw.bind.imp fun FH1 e1 H1 y _ A q v rv => ⟨FH1, e1, y, A, rv, ?_⟩⟩) fun u s1 ⟨v, H1, I1, r1, FH1, e1, y, A, rv, q⟩ => tru_end I1 r1 A rv q) (he _)
  cases hk : (rdv e1 y).bind truD with
  | none => rw [hk] at q; exact q.2.elim
  | some k => rw [hk] at q; exact ⟨k, rfl, q.2 FH1 H1 (.refl A.rl)⟩

theorem Post.from {ev : En → Out Vl} {FH e FH1 e1 : _} {σ : Sto} {H H1 : Hp} {Q : VK} (A : After X.K FH e σ H FH1 e1 H1) (h : Post X.K T W FH1 e1 σ H1 (fun FH' s' H' x => ∀ v, ValR X.K FH' s' σ H H' v x → Q v H') (ev e1)) : tE X.K T W ev σ H1 Q :=
  ⟨FH1, e1, A.rl, h.imp fun _ _ _ _ _ _ q v rv => q v (rv.from A.st.aloc)⟩
theorem Post.start {ev : En → Out Vl} {FH e FH1 e1 : _} {σ : Sto} {H H1 : Hp} {Q : VK} (A : After X.K FH e σ H FH1 e1 H1) (h : Post X.K T W FH1 e1 σ H1 (fun FH' s' H' x => ∀ v, ValR X.K FH' s' σ H1 H' v x → Q v H') (ev e1)) : tE X.K T W ev σ H1 Q :=
  ⟨FH1, e1, A.rl, h⟩
theorem tru_end' {pins : List (Addr × Obj)} {s : Shared} {σ : Sto} {FH H : Hp} {e : En} {x : Vl} {v : V} {u : Value} {Q : Bool → Hp → Prop} (I : Inv X pins σ H s) (r : RelV v u) (sub : Same FH H) (rv : ∀ d, rdv e x = some d → DR1 X.K FH H d v)
    (h : ∃ k, (rdv e x).bind truD = some k ∧ Q k H) : wpAny (model X.prog X.w) X.A (truthy u) (TP X pins σ Q) X.xe s := by
  obtain ⟨k, h, q⟩ := h
  cases hx : rdv e x with
  | none => rw [hx] at h; cases h
  | some d =>
    rw [hx] at h
    exact tru_data (FH := FH) I r sub (rv d hx) h q
/-- a test that is a bool -/
theorem tTest_of {ev : En → Out Vl} (hb : ∀ s x s', ev s = .ok x s' → ∃ k, x = .imm (.bool k)) {σ : Sto} {H : Hp} {Q : Bool → Hp → Prop} (h : tQ X.K T W (tests ev) σ H Q) : tE X.K T W ev σ H (fun v H' => ∃ k, v = .bl k ∧ Q k H') := by
  obtain ⟨FH, e, R, h⟩ := h
  unfold tests at h
  refine ⟨FH, e, R, h.bind.imp fun FH1 e1 H1 x ex A q v rv => ?_⟩
  obtain ⟨k, rfl⟩ := hb _ _ _ ex
  exact ⟨k, rv, q.2 FH1 H1 (.refl A.rl)⟩

/-! ### names, constants -/
theorem pe_tC {x : Expr} {v : V} {d : PyData} (h : PE X x (tC v)) (dr : DR X.K (fun _ => none) d v) : PE X x (tE X.K T W (fun s => .ok (.imm d) s)) :=
  pe_imp h fun σ H Q ⟨FH, s, R, q⟩ => q FH H (.refl R) v (DR.mono (by intro b u h; cases h) _ _ dr)
theorem c_var {G : Cf} {F : CF} {i : Nat} {x : Str} {pos : Pos} (hN : X.N[i]? = some x) (hv : Vis X.env.scope x) (hd : noDbg x = true) : PE X (.Name x pos) (tE X.K T W (evE G F (.var i))) := by
  refine pe_imp (pe_var hN hv (noDbg_ok hd).1 (noDbg_ok hd).2) fun σ H Q ⟨FH, s, R, q⟩ => ?_
  simp only [evE] at q
  cases hi : s[i]? with
  | none => rw [hi] at q; exact q.elim
  | some o =>
    rw [hi] at q
    cases o with
    | none => exact q.elim
    | some sl =>
      obtain ⟨v, e1, r⟩ := R.slot i sl hi
      refine ⟨v, e1, ?_⟩
      cases sl with
      | imm d => exact q FH H (.refl R) v r
      | own d => exact q FH H (.refl R) v e1
      | lok d => exact q FH H (.refl R) v e1
      | bor d => exact q FH H (.refl R) v e1
def cnB : PyData → Expr → Bool
  | .none, .Constant .none _ _ => true
  | .bool b, .Constant (.bool c) _ _ => b == c
  | .int b, .Constant (.int c) _ _ => decide (b = c)
  | .str b, .Constant (.str c) _ _ => decide (b = c)
  | _, _ => false
theorem c_cn {d : PyData} {x : Expr} (h : cnB d x = true) : PE X x (tE X.K T W (fun s => .ok (.imm d) s)) := by
  unfold cnB at h
  split at h
  · exact pe_tC pe_non (by unfold DR; rfl)
  · have e := beq_iff_eq.mp h
    subst e; exact pe_tC pe_bl (by unfold DR; rfl)
  · have e := of_decide_eq_true h
    subst e; exact pe_tC pe_int (by unfold DR; rfl)
  · have e := of_decide_eq_true h
    subst e; exact pe_tC pe_str (by unfold DR; rfl)
  · cases h
theorem cn_plain {d : PyData} {x : Expr} (h : cnB d x = true) (env : Env) : ∀ whole, isTrue x env whole = (do let v ← whole; standAt x.pos; holding [v] (truthy v)) := by
  unfold cnB at h
  split at h <;> first | (intro _; rfl) | cases h
theorem c_glo {k : Nat} {x : Str} {pos : Pos} {d : PyData} (hg : Gl X x) (hd : noDbg x = true) (h : ∃ u v, X.mg x = some u ∧ RelV v u ∧ DR X.K (fun _ => none) d v) : PE X (.Name x pos) (tE X.K T W (fun s => .ok (.imm d) s)) := by
  obtain ⟨u, v, h1, h2, h3⟩ := h
  exact pe_tC (pe_glob hg h1 h2 (noDbg_ok hd).1) h3

/-! ### operators -/
variable {x y z : Expr} {pos : Pos} {G : Cf} {F : CF} {a b c : E}
theorem c_bin (op : Bo) (ha : PE X x (tE X.K T W (evE G F a))) (hb : PE X y (tE X.K T W (evE G F b))) : PE X (.BinOp x (boP op) y pos) (tE X.K T W (evE G F (.bin op a b))) :=
  pe_imp (pe_op (op_bin op) (peA ha) (peA hb)) fun σ H Q h => tOp_of (snd_rG2 X.K (opBin op)) h
theorem c_neg (ha : PE X x (tE X.K T W (evE G F a))) : PE X (.UnaryOp .USub x pos) (tE X.K T W (evE G F (.neg a))) := by
  refine pe_imp (pe_un un_neg (peA ha)) fun σ H Q ⟨FH, s, R, q⟩ => ?_
  simp only [evE] at q
  refine ⟨FH, s, R, q.bind.imp fun FH1 s1 H1 y _ A q v rv => ?_⟩
  obtain ⟨_, q⟩ := q
  cases hy : rdv s1 y with
  | none => rw [hy] at q; exact q.elim
  | some d =>
    rw [hy] at q
    have r1 := rv.rd A.rl hy
    cases d with
    | int i => exact ⟨i, r1, q FH1 H1 (.refl A.rl) _ (by show DR _ _ _ _; unfold DR; rfl)⟩
    | _ => exact q.elim
theorem c_nt (ha : PE X x (tE X.K T W (evE G F a))) : PE X (.UnaryOp .Not x pos) (tE X.K T W (evE G F (.nt a))) := by
  refine ⟨fun pins s σ H Q I ⟨FH, e, R, q⟩ => ?_⟩
  simp only [evE, tests] at q
  refine UnaryOp_ (thn (ha.run pins s σ H (fun v H1 => ∃ FH1 e1 y, After X.K FH e σ H FH1 e1 H1 ∧ ValR X.K FH1 e1 σ H H1 v y ∧ ∃ k, (rdv e1 y).bind truD = some k ∧ Q (.bl (!k)) H1) I ⟨FH, e, R, q.bind.bind.imp fun FH1 e1 H1 y _ A q v rv => ⟨FH1, e1, y, A, rv, ?_⟩⟩) fun u s1 ⟨v, H1, I1, r1, FH1, e1, y, A, rv, q⟩ => not_of ?_)
  · obtain ⟨_, q⟩ := q
    cases hk : (rdv e1 y).bind truD with
    | none => rw [hk] at q; exact q.elim
    | some k => rw [hk] at q; exact ⟨k, rfl, (q FH1 H1 (.refl A.rl)).2 FH1 H1 (.refl A.rl) _ (by show DR _ _ _ _; unfold DR; rfl)⟩
  · obtain ⟨k, hk, q⟩ := q
    exact thn (tru_end' (Q := fun b H => Q (.bl (!b)) H) I1 r1 A.rl.sub (fun d hd => rv.rd A.rl hd) ⟨k, hk, q⟩) fun b s2 ⟨H2, I2, q⟩ => ⟨.bl (!b), H2, I2, rfl, q⟩
theorem pt_nt (ha : PT X x (tQ X.K T W (tests (evE G F a)))) : PT X (.UnaryOp .Not x pos) (tQ X.K T W (tests (evE G F (.nt a)))) := by
  refine pt_imp (pt_not ha) fun σ H Q ⟨FH, e, R, q⟩ => ⟨FH, e, R, ?_⟩
  have : tests (evE G F (.nt a)) e = (tests (evE G F a) e).bind fun b s1 => .ok (!b) s1 := by
    unfold tests
    simp only [evE, tests]
    cases evE G F a e with
    | ok y e1 =>
      simp only [Out.bind_ok]
      cases (rdv e1 y).bind truD <;> rfl
    | exc _ _ => rfl
    | stuck => rfl
  rw [this] at q
  exact q.bind.imp fun FH1 e1 H1 k _ A q => q.2 FH1 H1 (.refl A.rl)

theorem c_and {r : List Expr} (ha : PE X x (tE X.K T W (evE G F a))) (hb : PE X (.BoolOp .And (y :: r) pos) (tE X.K T W (evE G F b))) : PE X (.BoolOp .And (x :: y :: r) pos) (tE X.K T W (evE G F (.and a b))) := by
  refine ⟨fun pins s σ H Q I ⟨FH, e, R, q⟩ => ?_⟩
  simp only [evE] at q
  refine BoolOp_and (thn (ha.run pins s σ H (fun v H1 => ∃ FH1 e1 y, After X.K FH e σ H FH1 e1 H1 ∧ ValR X.K FH1 e1 σ H H1 v y ∧ ∃ k, (rdv e1 y).bind truD = some k ∧ if k = true then tE X.K T W (evE G F b) σ H1 Q else Q v H1) I
    ⟨FH, e, R, q.bind.imp fun FH1 e1 H1 y _ A q v rv => ⟨FH1, e1, y, A, rv, ?_⟩⟩) fun u s1 ⟨v, H1, I1, r1, FH1, e1, y, A, rv, k, hk, q⟩ =>
      thn (tru_end' (Q := fun b H => b = k ∧ H = H1) I1 r1 A.rl.sub (fun d hd => rv.rd A.rl hd) ⟨k, hk, rfl, rfl⟩) fun b s2 ⟨H2, I2, eb, eh⟩ => ?_)
  · obtain ⟨_, q⟩ := q
    cases hk : (rdv e1 y).bind truD with
    | none => rw [hk] at q; exact q.elim
    | some k =>
      rw [hk] at q
      cases k with
      | true => exact ⟨true, rfl, Post.from A q⟩
      | false => exact ⟨false, rfl, q FH1 H1 (.refl A.rl) v rv⟩
  · subst eb eh
    cases b with
    | true => exact hb.run pins s2 σ _ Q I2 q
    | false => exact ⟨v, _, I2, r1, q⟩
theorem c_or {r : List Expr} (ha : PE X x (tE X.K T W (evE G F a))) (hb : PE X (.BoolOp .Or (y :: r) pos) (tE X.K T W (evE G F b))) : PE X (.BoolOp .Or (x :: y :: r) pos) (tE X.K T W (evE G F (.or a b))) := by
  refine ⟨fun pins s σ H Q I ⟨FH, e, R, q⟩ => ?_⟩
  simp only [evE] at q
  refine BoolOp_or (thn (ha.run pins s σ H (fun v H1 => ∃ FH1 e1 y, After X.K FH e σ H FH1 e1 H1 ∧ ValR X.K FH1 e1 σ H H1 v y ∧ ∃ k, (rdv e1 y).bind truD = some k ∧ if k = true then Q v H1 else tE X.K T W (evE G F b) σ H1 Q) I
    ⟨FH, e, R, q.bind.imp fun FH1 e1 H1 y _ A q v rv => ⟨FH1, e1, y, A, rv, ?_⟩⟩) fun u s1 ⟨v, H1, I1, r1, FH1, e1, y, A, rv, k, hk, q⟩ =>
      thn (tru_end' (Q := fun b H => b = k ∧ H = H1) I1 r1 A.rl.sub (fun d hd => rv.rd A.rl hd) ⟨k, hk, rfl, rfl⟩) fun b s2 ⟨H2, I2, eb, eh⟩ => ?_)
  · obtain ⟨_, q⟩ := q
    cases hk : (rdv e1 y).bind truD with
    | none => rw [hk] at q; exact q.elim
    | some k =>
      rw [hk] at q
      cases k with
      | false => exact ⟨false, rfl, Post.from A q⟩
      | true => exact ⟨true, rfl, q FH1 H1 (.refl A.rl) v rv⟩
  · subst eb eh
    cases b with
    | false => exact hb.run pins s2 σ _ Q I2 q
    | true => exact ⟨v, _, I2, r1, q⟩
theorem tests_and (e : En) : tests (evE G F (.and a b)) e = (tests (evE G F a) e).bind fun k s1 => if k = true then tests (evE G F b) s1 else .ok false s1 := by
  unfold tests
  simp only [evE]
  cases evE G F a e with
  | ok y e1 =>
    simp only [Out.bind_ok]
    cases h : (rdv e1 y).bind truD with
    | none => rfl
    | some k => cases k <;> simp [ofV, h]
  | exc _ _ => rfl
  | stuck => rfl
theorem tests_or (e : En) : tests (evE G F (.or a b)) e = (tests (evE G F a) e).bind fun k s1 => if k = true then .ok true s1 else tests (evE G F b) s1 := by
  unfold tests
  simp only [evE]
  cases evE G F a e with
  | ok y e1 =>
    simp only [Out.bind_ok]
    cases h : (rdv e1 y).bind truD with
    | none => rfl
    | some k => cases k <;> simp [ofV, h]
  | exc _ _ => rfl
  | stuck => rfl
theorem tests_ife (e : En) : tests (evE G F (.ife c a b)) e = (tests (evE G F c) e).bind fun k s1 => if k = true then tests (evE G F a) s1 else tests (evE G F b) s1 := by
  conv => lhs; unfold tests
  simp only [evE]
  cases tests (evE G F c) e with
  | ok k e1 =>
    simp only [Out.bind_ok]
    cases k <;> rfl
  | exc _ _ => rfl
  | stuck => rfl
theorem pw_bool {op : BoolOp} {vs : List Expr} {t : TT} (h : PT X (.BoolOp op vs pos) t) : PW X (.BoolOp op vs pos) t := ⟨fun _ => h.run⟩
theorem pt_and {r : List Expr} (ha : PT X x (tQ X.K T W (tests (evE G F a)))) (hb : PT X (.BoolOp .And (y :: r) pos) (tQ X.K T W (tests (evE G F b)))) : PT X (.BoolOp .And (x :: y :: r) pos) (tQ X.K T W (tests (evE G F (.and a b)))) := by
  refine pt_imp (pw_and ha (pw_bool hb)).pt fun σ H Q ⟨FH, e, R, q⟩ => ⟨FH, e, R, ?_⟩
  rw [tests_and] at q
  refine q.bind.imp fun FH1 e1 H1 k _ A q => ?_
  cases k with
  | true => exact ⟨FH1, e1, A.rl, q.2⟩
  | false => exact q.2 FH1 H1 (.refl A.rl)
theorem pt_or {r : List Expr} (ha : PT X x (tQ X.K T W (tests (evE G F a)))) (hb : PT X (.BoolOp .Or (y :: r) pos) (tQ X.K T W (tests (evE G F b)))) : PT X (.BoolOp .Or (x :: y :: r) pos) (tQ X.K T W (tests (evE G F (.or a b)))) := by
  refine pt_imp (pw_or ha (pw_bool hb)).pt fun σ H Q ⟨FH, e, R, q⟩ => ⟨FH, e, R, ?_⟩
  rw [tests_or] at q
  refine q.bind.imp fun FH1 e1 H1 k _ A q => ?_
  cases k with
  | true => exact q.2 FH1 H1 (.refl A.rl)
  | false => exact ⟨FH1, e1, A.rl, q.2⟩
theorem c_ife (hc : PT X z (tQ X.K T W (tests (evE G F c)))) (ha : PE X x (tE X.K T W (evE G F a))) (hb : PE X y (tE X.K T W (evE G F b))) : PE X (.IfExp z x y pos) (tE X.K T W (evE G F (.ife c a b))) := by
  refine pe_imp (pe_ifExp hc ha hb) fun σ H Q ⟨FH, e, R, q⟩ => ⟨FH, e, R, ?_⟩
  simp only [evE] at q
  refine q.bind.imp fun FH1 e1 H1 k _ A q => ?_
  cases k with
  | true => exact Post.from A q.2
  | false => exact Post.from A q.2
theorem pt_ife (hc : PT X z (tQ X.K T W (tests (evE G F c)))) (ha : PT X x (tQ X.K T W (tests (evE G F a)))) (hb : PT X y (tQ X.K T W (tests (evE G F b)))) : PT X (.IfExp z x y pos) (tQ X.K T W (tests (evE G F (.ife c a b)))) := by
  refine ⟨fun pins s σ H Q I ⟨FH, e, R, q⟩ => ?_⟩
  rw [tests_ife] at q
  refine isTrue_IfExp (thn (hc.run pins s σ H (fun k H1 => if k = true then tQ X.K T W (tests (evE G F a)) σ H1 Q else tQ X.K T W (tests (evE G F b)) σ H1 Q) I ⟨FH, e, R, q.bind.imp fun FH1 e1 H1 k _ A q => ?_⟩) fun k s1 ⟨H1, I1, q⟩ => ?_)
  · cases k with
    | true => exact ⟨FH1, e1, A.rl, q.2⟩
    | false => exact ⟨FH1, e1, A.rl, q.2⟩
  · cases k with
    | true => exact ha.run pins s1 σ H1 Q I1 q
    | false => exact hb.run pins s1 σ H1 Q I1 q
/-! ### comparisons -/
theorem c_cmp (hu : X.A.units + 65 < cLine) (op : Co) (ha : PE X x (tE X.K T W (evE G F a))) (hb : PE X y (tE X.K T W (evE G F b))) (hm : behindInMarks (coP op) y = false) : PE X (.Compare x [coP op] [y] pos) (tE X.K T W (evE G F (.cmp op a b))) :=
  pe_imp (pe_cmpR (op_cmp hu op) (peA ha) (peA hb) hm) fun σ H Q h => tOp_of (snd_rG2 X.K _) h
theorem cmp_bool (op : Co) : ∀ s v s', evE G F (.cmp op a b) s = .ok v s' → ∃ k, v = .imm (.bool k) := fun s v s' h => by
  simp only [evE] at h
  cases h1 : evE G F a s with
  | stuck => rw [h1] at h; cases h
  | exc _ _ => rw [h1] at h; cases h
  | ok p s1 =>
    rw [h1, Out.bind_ok] at h
    cases h2 : evE G F b s1 with
    | stuck => rw [h2] at h; cases h
    | exc _ _ => rw [h2] at h; cases h
    | ok r s2 =>
      rw [h2, Out.bind_ok] at h
      cases h3 : rdv s2 p with
      | none => rw [h3] at h; cases h
      | some d =>
        cases h4 : rdv s2 r with
        | none => rw [h3, h4] at h; cases h
        | some e =>
          rw [h3, h4] at h
          simp only [Option.bind_some] at h
          cases h5 : opCmp op d e with
          | none => rw [h5] at h; cases h
          | some k => rw [h5] at h; cases h; exact ⟨k, rfl⟩
theorem pt_cmp' (hu : X.A.units + 65 < cLine) (op : Co) (ha : PE X x (tE X.K T W (evE G F a))) (hb : PE X y (tE X.K T W (evE G F b))) (hm : behindInMarks (coP op) y = false) : PT X (.Compare x [coP op] [y] pos) (tQ X.K T W (tests (evE G F (.cmp op a b)))) :=
  pt_imp (pt_cmpR (op_cmp hu op) (peA ha) (peA hb) hm) fun σ H Q h => tOp_of (snd_rG2 X.K _) (tTest_of (cmp_bool op) h)
theorem tChain_of (op op2 : Co) {σ : Sto} {H : Hp} {Q : VK} (h : tE X.K T W (evE G F (.cmp2 op op2 a b c)) σ H Q) :
    tChain (rG2 X.K fun d e => (opCmp op d e).map fun k => .imm (.bool k)) (rG2 X.K fun d e => (opCmp op2 d e).map fun k => .imm (.bool k)) (tA X.K T W (evE G F a)) (tA X.K T W (evE G F b)) (tA X.K T W (evE G F c)) σ H Q := by
  obtain ⟨FH, e, R, h⟩ := h
  simp only [evE] at h
  refine ⟨FH, e, R, h.bind.imp fun FH1 e1 H1 p _ A1 q v r1 => ⟨FH1, e1, A1.rl, q.2.bind.imp fun FH2 e2 H2 r _ A2 q u r2 => ?_⟩⟩
  obtain ⟨_, q⟩ := q
  cases h3 : rdv e2 p with
  | none => rw [h3] at q; exact q.elim
  | some d1 =>
    cases h4 : rdv e2 r with
    | none => rw [h3, h4] at q; exact q.elim
    | some d2 =>
      rw [h3, h4] at q
      simp only [Option.bind_some] at q
      cases h5 : opCmp op d1 d2 with
      | none => rw [h5] at q; exact q.elim
      | some k =>
        rw [h5] at q
        refine ⟨d1, d2, .imm (.bool k), FH2, by simp only [h5]; rfl, A2.rl.sub, AgR.rd A2.rl (r1.mono A2.st.fle) h3, AgR.rd A2.rl r2 h4, fun v' H' rr => ?_⟩
        rcases rr with ⟨rfl, rr⟩ | ⟨_, cs, _, _, _, _, z, _⟩
        · unfold DR at rr
          subst rr
          refine ⟨k, rfl, ?_⟩
          cases k with
          | false => exact q FH2 _ (.refl A2.rl) _ (by show DR _ _ _ _; unfold DR; rfl)
          | true =>
            refine ⟨FH2, e2, A2.rl, q.bind.imp fun FH3 e3 H3 t _ A3 q w r3 => ?_⟩
            obtain ⟨_, q⟩ := q
            cases h6 : rdv e3 r with
            | none => rw [h6] at q; exact q.elim
            | some d2' =>
              cases h7 : rdv e3 t with
              | none => rw [h6, h7] at q; exact q.elim
              | some d3 =>
                rw [h6, h7] at q
                simp only [Option.bind_some] at q
                cases h8 : opCmp op2 d2' d3 with
                | none => rw [h8] at q; exact q.elim
                | some k2 =>
                  rw [h8] at q
                  refine ⟨d2', d3, .imm (.bool k2), FH3, by simp only [h8]; rfl, A3.rl.sub, AgR.rd A3.rl (r2.mono A3.st.fle) h6, AgR.rd A3.rl r3 h7, fun v' H' rr => ?_⟩
                  rcases rr with ⟨rfl, rr⟩ | ⟨_, cs, _, _, _, _, z, _⟩
                  · exact q FH3 _ (.refl A3.rl) _ rr
                  · cases z
        · cases z
theorem c_cmp2 (hu : X.A.units + 65 < cLine) (op op2 : Co) (ha : PE X x (tE X.K T W (evE G F a))) (hb : PE X y (tE X.K T W (evE G F b))) (hc : PE X z (tE X.K T W (evE G F c))) (hm : lastMarks [coP op, coP op2] [y, z] = false) :
    PE X (.Compare x [coP op, coP op2] [y, z] pos) (tE X.K T W (evE G F (.cmp2 op op2 a b c))) :=
  pe_imp (pe_chain (op_cmp hu op) (op_cmp hu op2) (peA ha) (peA hb) (peA hc) hm) fun σ H Q h => tChain_of op op2 h
theorem cmp2_bool (op op2 : Co) : ∀ s v s', evE G F (.cmp2 op op2 a b c) s = .ok v s' → ∃ k, v = .imm (.bool k) := fun s v s' h => by
  simp only [evE] at h
  cases h1 : evE G F a s with
  | stuck => rw [h1] at h; cases h
  | exc _ _ => rw [h1] at h; cases h
  | ok p s1 =>
    rw [h1, Out.bind_ok] at h
    cases h2 : evE G F b s1 with
    | stuck => rw [h2] at h; cases h
    | exc _ _ => rw [h2] at h; cases h
    | ok r s2 =>
      rw [h2, Out.bind_ok] at h
      generalize hg : ((rdv s2 p).bind fun d => (rdv s2 r).bind fun e => opCmp op d e) = o at h
      cases o with
      | none => cases h
      | some k =>
        cases k with
        | false => cases h; exact ⟨false, rfl⟩
        | true =>
          cases h3 : evE G F c s2 with
          | stuck => rw [h3] at h; cases h
          | exc _ _ => rw [h3] at h; cases h
          | ok t s3 =>
            simp only [h3, Out.bind_ok] at h
            cases h5 : rdv s3 r with
            | none => rw [h5] at h; cases h
            | some d =>
              cases h4 : rdv s3 t with
              | none => rw [h5, h4] at h; cases h
              | some e =>
                rw [h5, h4] at h
                simp only [Option.bind_some] at h
                cases h6 : opCmp op2 d e with
                | none => rw [h6] at h; cases h
                | some k => rw [h6] at h; cases h; exact ⟨k, rfl⟩
theorem pt_cmp2 (hu : X.A.units + 65 < cLine) (op op2 : Co) (ha : PE X x (tE X.K T W (evE G F a))) (hb : PE X y (tE X.K T W (evE G F b))) (hc : PE X z (tE X.K T W (evE G F c))) (hm : lastMarks [coP op, coP op2] [y, z] = false) :
    PT X (.Compare x [coP op, coP op2] [y, z] pos) (tQ X.K T W (tests (evE G F (.cmp2 op op2 a b c)))) :=
  pt_imp (pt_chain (op_cmp hu op) (op_cmp hu op2) (peA ha) (peA hb) (peA hc) hm) fun σ H Q h => tChain_of op op2 (tTest_of (cmp2_bool op op2) h)
end
end PV

namespace PV
open PySem PySem.Spec PyProof.Rows L2

def lenEs : Es → Nat
  | .nil => 0
  | .cons _ r => lenEs r + 1
def isCall : Expr → Bool
  | .Call .. => true
  | _ => false
theorem base_plain {o : Expr} {attr : Str} {env : Env} (h : isCall o = false) : attributeBase o attr env (eval o env) = eval o env := by
  cases o <;> first | rfl | cases h
def isSlice : Expr → Bool
  | .Slice .. => true
  | _ => false
theorem plain_ix {b : Expr} (h : isSlice b = false) : PlainIx b := by
  intro o i
  cases b <;> first | rfl | cases h
theorem plain_true {x : Expr} {env : Env} (h : (match x with | .UnaryOp .Not _ _ => false | .BoolOp .. => false | .IfExp .. => false | .Compare .. => false | _ => true) = true) : ∀ whole, isTrue x env whole = (do let v ← whole; standAt x.pos; holding [v] (truthy v)) := by
  intro whole
  cases x with
  | UnaryOp op _ _ => cases op <;> first | rfl | cases h
  | _ => first | rfl | cases h

section
variable {X : Cx} {T : XT} {W : WX} {x y z : Expr} {xs : List Expr} {pos : Pos} {G : Cf} {F : CF} {a b c : E} {es ks : Es}
theorem evEs_len : ∀ (es : Es) (s s' : En) (vs : List Vl), evEs G F es s = .ok vs s' → vs.length = lenEs es
  | .nil, s, s', vs, h => by simp only [evEs] at h; cases h; rfl
  | .cons e r, s, s', vs, h => by
    simp only [evEs] at h
    cases h1 : evE G F e s with
    | stuck => rw [h1] at h; cases h
    | exc _ _ => rw [h1] at h; cases h
    | ok v s1 =>
      rw [h1, Out.bind_ok] at h
      cases h2 : evEs G F r s1 with
      | stuck => rw [h2] at h; cases h
      | exc _ _ => rw [h2] at h; cases h
      | ok ws s2 =>
        rw [h2, Out.bind_ok] at h
        cases h
        rw [List.length_cons, evEs_len r s1 _ ws h2]; rfl
theorem evFs_len : ∀ (es : Es) (s s' : En) (vs : List PyData), evFs G F es s = .ok vs s' → vs.length = lenEs es
  | .nil, s, s', vs, h => by simp only [evFs] at h; cases h; rfl
  | .cons e r, s, s', vs, h => by
    simp only [evFs] at h
    cases h1 : frz (evE G F e) s with
    | stuck => rw [h1] at h; cases h
    | exc _ _ => rw [h1] at h; cases h
    | ok v s1 =>
      rw [h1, Out.bind_ok] at h
      cases h2 : evFs G F r s1 with
      | stuck => rw [h2] at h; cases h
      | exc _ _ => rw [h2] at h; cases h
      | ok ws s2 =>
        rw [h2, Out.bind_ok] at h
        cases h
        rw [List.length_cons, evFs_len r s1 _ ws h2]; rfl

/-! ### lists of arguments -/
theorem ca_nil : PA X [] (tAs X.K T W (evEs G F .nil)) := pa_imp pa_nil fun σ H Q ⟨FH, s, R, q⟩ => q FH H (.refl R) [] rfl
theorem tCons_of {ea : En → Out Vl} {er : En → Out (List Vl)} {σ : Sto} {H : Hp} {Q : List V → Hp → Prop} (h : tAs X.K T W (fun s => (ea s).bind fun x s1 => (er s1).bind fun xs s2 => .ok (x :: xs) s2) σ H Q) : tCons (tA X.K T W ea) (tAs X.K T W er) σ H Q := by
  obtain ⟨FH, s, R, q⟩ := h
  exact ⟨FH, s, R, q.bind.imp fun FH1 s1 H1 v _ A1 q u r1 => ⟨FH1, s1, A1.rl, q.2.bind.imp fun FH2 s2 H2 vs _ A2 q us r2 => q.2 FH2 H2 (.refl A2.rl) (u :: us) ⟨v, vs, rfl, r1.mono A2.st.fle, r2⟩⟩⟩
theorem ca_cons (ha : PE X x (tE X.K T W (evE G F a))) (hr : PA X xs (tAs X.K T W (evEs G F es))) (hs : isStar x = false) : PA X (x :: xs) (tAs X.K T W (evEs G F (.cons a es))) :=
  pa_imp (pa_cons (peA ha) hr (star_cons hs)) fun σ H Q h => tCons_of h
theorem cf_nil : PA X [] (tFs X.K T W (evFs G F .nil)) := pa_imp pa_nil fun σ H Q ⟨FH, s, R, q⟩ => q FH H (.refl R) [] DRs.nil
theorem cf_cons (ha : PE X x (tE X.K T W (evE G F a))) (hr : PA X xs (tFs X.K T W (evFs G F es))) (hs : isStar x = false) : PA X (x :: xs) (tFs X.K T W (evFs G F (.cons a es))) := by
  refine pa_imp (pa_cons (peF ha) hr (star_cons hs)) fun σ H Q ⟨FH, s, R, q⟩ => ?_
  simp only [evFs] at q
  exact ⟨FH, s, R, q.bind.imp fun FH1 s1 H1 v _ A1 q u r1 => ⟨FH1, s1, A1.rl, q.2.bind.imp fun FH2 s2 H2 vs _ A2 q us r2 => q.2 FH2 H2 (.refl A2.rl) (u :: us) (.cons (DR.mono A2.st.fle _ _ r1) r2)⟩⟩
theorem ck_nil : PK X [] (tAs X.K T W (evEs G F .nil)) := ⟨fun pos pins s σ H Q I ⟨FH, e, R, q⟩ => (pk_nil (X := X)).run pos pins s σ H Q I (q FH H (.refl R) [] rfl)⟩
theorem ck_cons {nm : Option Str} {kpos : Pos} {kws : List Keyword} (ha : PE X x (tE X.K T W (evE G F a))) (hr : PK X kws (tAs X.K T W (evEs G F es))) : PK X (⟨nm, x, kpos⟩ :: kws) (tAs X.K T W (evEs G F (.cons a es))) :=
  ⟨fun pos pins s σ H Q I h => (pk_cons (peA ha) hr).run pos pins s σ H Q I (tCons_of h)⟩

/-! ### calls of defs -/
theorem spF_call {K : PySem.W.Frag} {T : XT} {W : WX} {np f : Nat} {ms : Nat → List Bool} {vs : List V} {xs : List Vl} {FH FH0 H H0 : Hp} {s s0 : En} {σ : Sto} {Q : VK} (A0 : After K FH0 s0 σ H0 FH s H) (ag : AgRs K FH σ vs xs) (hn : vs.length = np)
    (h : Post K T W FH s σ H (fun FH' s' H' x => ∀ v, ValR K FH' s' σ H0 H' v x → Q v H') (doCall F ms f xs s)) : spF K T np (F f) vs H Q (fun cls d H => W cls d σ H) := by
  unfold doCall at h
  split at h
  · next hap =>
    cases hs : slotsOf s (ms f) xs with
    | none => rw [hs] at h; exact h.elim
    | some as =>
      rw [hs] at h
      simp only at h
      obtain ⟨l, R0, fin⟩ := call_link A0.rl ag hap hs
      refine ⟨hn, FH, as, l.trans hn, R0, ?_⟩
      cases hF : F f as with
      | stuck => rw [hF] at h; exact h.elim
      | ok x outs =>
        rw [hF] at h
        simp only at h ⊢
        intro FH' H' v A rv
        cases hb : back (ms f) xs outs s with
        | none => rw [hb] at h; exact h.elim
        | some s' =>
          rw [hb] at h
          simp only at h
          split at h
          · next hno =>
            obtain ⟨A', vr⟩ := fin FH' H' outs s' A hb
            exact h FH' H' A' v ((vr v x hno rv).from A0.st.aloc)
          · exact h.elim
      | exc x outs =>
        rw [hF] at h
        simp only at h ⊢
        intro FH' H' cls d A ex
        cases hb : back (ms f) xs outs s with
        | none => rw [hb] at h; exact h.elim
        | some s' =>
          rw [hb] at h
          obtain ⟨A', _⟩ := fin FH' H' outs s' A hb
          exact h FH' H' cls d A' ex
  · exact h.elim
theorem c_callk {D : Ck} {lv k n : Nat} {f : Str} {kn : List Str} {kws : List Keyword} {p : Pos} (fs : FnS X.prog X.w X.K X.mg X.base T lv F D G k f n kn) (hr : Room lv X.A) (hgd : X.A.guards = some []) (px : ∀ σ, PassesAt (L2.CX X.prog X.w) X σ (fun cls d H => W cls d σ H)) (hg : Gl X f) (hd : noDbg f = true)
    (ha : PA X xs (tAs X.K T W (evEs G F es))) (hk : PK X kws (tAs X.K T W (evEs G F ks))) (hnil : xs = [] → es = .nil) (hst : (xs.all fun e => !isStar e) = true) (hkn : kws.map kwName = kn.map some) (l1 : lenEs es = n) (l2 : lenEs ks = kn.length) :
    PE X (.Call (.Name f p) xs kws pos) (tE X.K T W (evE G F (.callk k es ks))) := by
  obtain ⟨fa, fd, ps, h1, h2, h3, h4, h5⟩ := fs.it
  refine pe_imp (pe_callG (E := fun σ cls d H => W cls d σ H) h5 hr hgd hg h1 h2 h3 px ha hk (fun e σ H Q ⟨FH, s, R, q⟩ => ?_) hst hkn (noDbg_ok hd).1) fun σ H Q ⟨FH, s, R, q⟩ => ?_
  · rw [hnil e] at q
    exact q FH H (.refl R) [] rfl
  · simp only [evE] at q
    refine ⟨FH, s, R, q.bind.imp fun FH1 s1 H1 vs e1 A1 q us r1 => ⟨FH1, s1, A1.rl, q.2.bind.imp fun FH2 s2 H2 ws e2 A2 q zs r2 => ?_⟩⟩
    have ag := ((r1.mono A2.st.fle).append r2).place (G.shapes k).src
    refine ⟨by rw [r1.len, evEs_len _ _ _ _ e1, l1], by rw [r2.len, evEs_len _ _ _ _ e2, l2], spF_call (A1.trans A2) ag ?_ q.2⟩
    rw [h4]
    simp [place]

/-! ### calls of builtins -/
theorem rdAll_get {s : En} : ∀ {vs : List Vl} {ds : List PyData}, rdAll s vs = some ds → ds.length = vs.length := by
  intro vs
  induction vs with
  | nil => intro ds h; cases h; rfl
  | cons v vs ih =>
    intro ds h
    simp only [rdAll] at h
    cases h1 : rdv s v with
    | none => rw [h1] at h; cases h
    | some d =>
      cases h2 : rdAll s vs with
      | none => rw [h1, h2] at h; cases h
      | some r => rw [h1, h2] at h; cases h; rw [List.length_cons, List.length_cons, ih h2]
theorem rdAll_rel {K : PySem.W.Frag} {FH H : Hp} {s : En} {σ : Sto} (R : Rl K FH s σ H) : ∀ {us : List V} {vs : List Vl} {ds : List PyData}, AgRs K FH σ us vs → rdAll s vs = some ds → DR1s K FH H ds us
  | [], vs, ds, ag, h => by
    have e : vs = [] := ag
    subst e
    cases h
    exact rfl
  | u :: us, vs, ds, ag, h => by
    obtain ⟨x, r, rfl, a, t⟩ := ag
    simp only [rdAll] at h
    cases h1 : rdv s x with
    | none => rw [h1] at h; cases h
    | some d =>
      cases h2 : rdAll s r with
      | none => rw [h1, h2] at h; cases h
      | some rr =>
        rw [h1, h2] at h; cases h
        exact ⟨u, us, rfl, a.rd R h1, rdAll_rel R t h2⟩
theorem tCB_of {g : List PyData → Option Vl} {ev : En → Out (List Vl)} {σ : Sto} {H : Hp} {Q : VK} (h : tE X.K T W (fun s => (ev s).bind fun vs s1 => ofO s1 ((rdAll s1 vs).bind g)) σ H Q) : tCB (rGc X.K g) (tAs X.K T W ev) σ H Q := by
  obtain ⟨FH, s, R, q⟩ := h
  refine ⟨FH, s, R, q.bind.imp fun FH1 s1 H1 vs _ A1 q us r1 => ?_⟩
  obtain ⟨z, qg, hz⟩ := post_ofO A1 q.2
  cases hx : rdAll s1 vs with
  | none => rw [hx] at qg; cases qg
  | some ds =>
    rw [hx] at qg
    exact ⟨ds, z, FH1, qg, A1.rl.sub, rdAll_rel A1.rl r1 hx, hz⟩
def biN : Bi → Str
  | .len => "len" | .abs => "abs" | .max => "max" | .min => "min" | .int => "int" | .bool => "bool" | .str => "str" | .list => "list" | .tuple => "tuple" | .sum => "sum" | .sorted => "sorted" | .any => "any" | .all => "all" | .repr => "repr"
def biOk : Bi → Bool
  | .bool => false | .str => false | _ => true
theorem c_bi {bi : Bi} {p : Pos} (hok : biOk bi = true) (hc : X.calm = true) (hgd : X.A.guards = some []) (hu : X.A.units + 65 < cLine) (hsys : ∃ o, X.base.get? sysModules = some o) (hg : Gl X (biN bi)) (hm : X.mg (biN bi) = none)
    (ha : PA X (x :: xs) (tAs X.K T W (evEs G F es))) (hst : ((x :: xs).all fun e => !isStar e) = true) : PE X (.Call (.Name (biN bi) p) (x :: xs) [] pos) (tE X.K T W (evE G F (.bi bi es))) := by
  rw [List.all_cons, Bool.and_eq_true] at hst
  have hs1 : isStar x = false := by simpa using hst.1
  have key : ∀ {id : String}, CallR X (.builtin id) (rGc X.K (opBi bi)) → bootBuiltins (biN bi) = some (.builtin id) → (biN bi) ≠ "__name__" → (biN bi == ("__debug__" : Str)) = false → PE X (.Call (.Name (biN bi) p) (x :: xs) [] pos) (tE X.K T W (evE G F (.bi bi es))) := fun h1 h2 h3 h4 =>
    pe_imp (pe_callB h1 hg hm h2 ha h3 h4 (star_cons hs1) (star_none hst.2)) fun σ H Q h => tCB_of h
  have keyT : ∀ {id : String}, CallR X (.type id) (rGc X.K (opBi bi)) → bootBuiltins (biN bi) = some (.type id) → (biN bi) ≠ "__name__" → (biN bi == ("__debug__" : Str)) = false → PE X (.Call (.Name (biN bi) p) (x :: xs) [] pos) (tE X.K T W (evE G F (.bi bi es))) := fun h1 h2 h3 h4 =>
    pe_imp (pe_callTy h1 hg hm h2 ha h3 h4 (star_cons hs1) (star_none hst.2)) fun σ H Q h => tCB_of h
  cases bi with
  | len => exact key len_ok (by decide +kernel) (by decide) (by decide)
  | abs => exact key abs_ok (by decide +kernel) (by decide) (by decide)
  | max => exact key (max_ok hc) (by decide +kernel) (by decide) (by decide)
  | min => exact key (min_ok hc) (by decide +kernel) (by decide) (by decide)
  | int => exact keyT int_ok (by decide +kernel) (by decide) (by decide)
  | bool => cases hok
  | str => cases hok
  | list => exact keyT (list_ok hc) (by decide +kernel) (by decide) (by decide)
  | tuple => exact keyT tuple_ok (by decide +kernel) (by decide) (by decide)
  | sum => exact key (sum_ok hc) (by decide +kernel) (by decide) (by decide)
  | sorted => exact key sorted_ok (by decide +kernel) (by decide) (by decide)
  | any => exact key (any_ok hc) (by decide +kernel) (by decide) (by decide)
  | all => exact key (all_ok hc) (by decide +kernel) (by decide) (by decide)
  | repr => exact key (repr_ok hgd hu hsys) (by decide +kernel) (by decide) (by decide)
end
end PV

namespace PV
open PySem PySem.Spec PyProof.Rows L2

section
variable {X : Cx} {T : XT} {W : WX} {x y z : Expr} {xs : List Expr} {pos : Pos} {G : Cf} {F : CF} {a b c : E} {es ks : Es}

/-! ### isinstance -/
theorem pe_ty {n : Nat} {p : Pos} (h6 : n < 6) (hg : Gl X (tyN n : Str)) (hm : X.mg (tyN n : Str) = none) : PE X (.Name (tyN n : Str) p) (tC (.ty (tyN n))) := by
  match n, h6 with
  | 0, _ => exact pe_bltn hg hm (by decide +kernel) rfl (by decide) (by decide)
  | 1, _ => exact pe_bltn hg hm (by decide +kernel) rfl (by decide) (by decide)
  | 2, _ => exact pe_bltn hg hm (by decide +kernel) rfl (by decide) (by decide)
  | 3, _ => exact pe_bltn hg hm (by decide +kernel) rfl (by decide) (by decide)
  | 4, _ => exact pe_bltn hg hm (by decide +kernel) rfl (by decide) (by decide)
  | 5, _ => exact pe_bltn hg hm (by decide +kernel) rfl (by decide) (by decide)
theorem kit_one {K : PySem.W.Frag} {n : Nat} (h6 : n < 6) (d : PyData) : PySem.W.kitOne K (.type (tyD d)) (.type (tyN n)) = some (isiD n d) := kit_ty (isi_tab n h6 d)
theorem kit_any {K : PySem.W.Frag} (d : PyData) : ∀ {ns : List Nat}, (∀ n ∈ ns, n < 6) → PySem.W.kitAny K (.type (tyD d)) (ns.map fun n => .type (tyN n)) = some (ns.any fun n => isiD n d)
  | [], _ => kitAny_nil
  | n :: ns, h => by
    rw [List.map_cons, List.any_cons]
    refine kitAny_cons (kit_one (h n (by simp)) d) (fun e => ?_) fun e => ?_
    · rw [e, Bool.false_or]; exact kit_any d fun m hm => h m (by simp [hm])
    · rw [e, Bool.true_or]
theorem c_isi1 {n : Nat} {p p2 : Pos} (h6 : n < 6) (hg : Gl X "isinstance") (hm : X.mg "isinstance" = none) (hg2 : Gl X (tyN n : Str)) (hm2 : X.mg (tyN n : Str) = none) (ha : PE X x (tE X.K T W (evE G F a))) (hs : isStar x = false) :
    PE X (.Call (.Name "isinstance" p) [x, .Name (tyN n : Str) p2] [] pos) (tE X.K T W (evE G F (.isi a [n]))) := by
  refine pe_imp (pe_callB call_isi hg hm (by decide +kernel) (pa_cons (peA ha) (pa_cons (pe_ty h6 hg2 hm2) pa_nil rfl) (star_cons hs)) (by decide) (by decide) (star_cons hs) rfl) fun σ H Q ⟨FH, s, R, q⟩ => ?_
  simp only [evE] at q
  refine ⟨FH, s, R, q.bind.imp fun FH1 s1 H1 v _ A1 q u r1 => ?_⟩
  obtain ⟨zz, qg, hz⟩ := post_ofO A1 q.2
  cases hx : rdv s1 v with
  | none => rw [hx] at qg; cases qg
  | some d =>
    rw [hx] at qg; cases qg
    refine ⟨u, .ty (tyN n), _, _, isiD n d, rfl, .ty _, ty_of A1.rl.sub (r1.rd A1.rl hx), kit_one h6 d, hz _ _ ?_⟩
    simpa using (res_bl (K := X.K) (FH := FH1) (H := H1))
/-- the names of types, in a tuple -/
def tyNames : List Nat → List Expr → Bool
  | [], [] => true
  | n :: ns, .Name y _ :: r => decide (n < 6) && decide (y = (tyN n : Str)) && tyNames ns r
  | _, _ => false
theorem pa_tys : ∀ {ns : List Nat} {ys : List Expr}, tyNames ns ys = true → (∀ n ∈ ns, Gl X (tyN n : Str)) → (∀ n ∈ ns, X.mg (tyN n : Str) = none) → PA X ys (fun _ H Q => Q (ns.map fun n => .ty (tyN n)) H)
  | [], [], _, _, _ => pa_nil
  | n :: ns, [], h, _, _ => by cases h
  | [], _ :: _, h, _, _ => by simp [tyNames] at h
  | n :: ns, y :: ys, h, hg, hm => by
    cases y with
    | Name y p =>
      simp only [tyNames, Bool.and_eq_true, decide_eq_true_eq] at h
      obtain ⟨⟨h1, h2⟩, h3⟩ := h
      subst h2
      exact pa_imp (pa_cons (pe_ty h1 (hg n (by simp)) (hm n (by simp))) (pa_tys h3 (fun m k => hg m (by simp [k])) (fun m k => hm m (by simp [k]))) rfl) fun σ H Q q => q
    | _ => simp [tyNames] at h
theorem tyNames_lt : ∀ {ns : List Nat} {ys : List Expr}, tyNames ns ys = true → ∀ n ∈ ns, n < 6
  | [], _, _, n, hn => by simp at hn
  | n :: ns, [], h, _, _ => by cases h
  | n :: ns, y :: ys, h, m, hm => by
    cases y with
    | Name y p =>
      simp only [tyNames, Bool.and_eq_true, decide_eq_true_eq] at h
      rcases List.mem_cons.mp hm with e | e
      · rw [e]; exact h.1.1
      · exact tyNames_lt h.2 m e
    | _ => simp [tyNames] at h
theorem clsv_tys : ∀ (ns : List Nat), Paired ClsV (ns.map fun n => V.ty (tyN n)) (ns.map fun n => Value.type (tyN n))
  | [] => .nil
  | n :: ns => .cons (.ty _) (clsv_tys ns)
theorem c_isiT {ns : List Nat} {ys : List Expr} {k2 : Nat} {p p2 : Pos} (hn : tyNames ns ys = true) (hl : ns.length ≤ 6) (hg : Gl X "isinstance") (hm : X.mg "isinstance" = none) (hg2 : ∀ n ∈ ns, Gl X (tyN n : Str)) (hm2 : ∀ n ∈ ns, X.mg (tyN n : Str) = none) (ha : PE X x (tE X.K T W (evE G F a))) (hs : isStar x = false) :
    PE X (.Call (.Name "isinstance" p) [x, .Tuple ys k2 p2] [] pos) (tE X.K T W (evE G F (.isi a ns))) := by
  refine pe_imp (pe_callB call_isiT hg hm (by decide +kernel) (pa_cons (peA ha) (pa_cons (pe_tup (pa_tys hn hg2 hm2)) pa_nil rfl) (star_cons hs)) (by decide) (by decide) (star_cons hs) rfl) fun σ H Q ⟨FH, s, R, q⟩ => ?_
  simp only [evE] at q
  refine ⟨FH, s, R, q.bind.imp fun FH1 s1 H1 v _ A1 q u r1 => ⟨by rw [List.length_map, sizeLine_eq]; omega, fun tp htp => ?_⟩⟩
  obtain ⟨R2, S2⟩ := A1.rl.laid (o := .tup (ns.map fun n => V.ty (tyN n))) htp
  have A2 : After X.K FH1 s1 σ H1 FH1 s1 (upd H1 tp (.tup (ns.map fun n => V.ty (tyN n)))) := ⟨R2, S2⟩
  cases hx : rdv s1 v with
  | none => rw [hx] at q; exact q.2.elim
  | some d =>
    rw [hx] at q
    exact ⟨u, tp, _, _, _, _, rfl, upd_same, clsv_tys ns, ty_of R2.sub (r1.rd R2 hx), kit_any d (tyNames_lt hn), q.2 FH1 _ A2 _ (by show DR _ _ _ _; unfold DR; rfl)⟩

/-! ### methods -/
theorem c_join {apos : Pos} (ho : PE X x (tE X.K T W (evE G F a))) (he : PE X y (tE X.K T W (evE G F b))) (hs : isStar y = false) (hb : isCall x = false) (hl : (apos.endLine == pos.line) = true) :
    PE X (.Call (.Attribute x "join" apos) [y] [] pos) (tE X.K T W (evE G F (.me .join a (.cons b .nil)))) := by
  refine pe_imp (pe_join (peA ho) (peA he) (star_cons hs) (base_plain hb) hl) fun σ H Q ⟨FH, s, R, q⟩ => ?_
  simp only [evE, evEs, Out.bind_ok] at q
  refine ⟨FH, s, R, q.bind.imp fun FH1 s1 H1 v _ A1 q u r1 => ?_⟩
  obtain ⟨_, q⟩ := q
  split at q
  · next hk =>
    cases hx : rdv s1 v with
    | none => rw [hx] at hk; cases hk
    | some d =>
      rw [hx] at hk
      cases d with
      | str w =>
        refine ⟨⟨w, r1.rd A1.rl hx⟩, FH1, s1, A1.rl, q.bind.bind.imp fun FH2 s2 H2 t _ A2 q us r2 => ?_⟩
        obtain ⟨z, qg, hz⟩ := post_ofO (A1.trans A2) (q.2 FH2 H2 (.refl A2.rl)).2
        cases h1 : rdv s2 v with
        | none => rw [h1] at qg; cases qg
        | some d1 =>
          cases h2 : rdv s2 t with
          | none => rw [h1] at qg; simp [rdAll, h2] at qg
          | some d2 =>
            rw [h1] at qg
            simp only [rdAll, h2, Option.bind_some] at qg
            cases d1 with
            | str w1 =>
              cases d2 with
              | list ds =>
                simp only [opMe] at qg
                cases h3 : strs? ds with
                | none => rw [h3] at qg; cases qg
                | some ss =>
                  rw [h3, Option.bind_some] at qg
                  split at qg
                  · next hlen =>
                    cases qg
                    obtain ⟨p, vs, rfl, hp, dr⟩ := r2.rd A2.rl h2
                    rw [strs_of h3] at dr
                    have e := DRs.strsV ss dr
                    subst e
                    exact ⟨w1, p, ss, (r1.mono A2.st.fle).rd A2.rl h1, rfl, .inl (.inl hp), hlen, hz _ _ res_str⟩
                  · cases qg
              | _ => simp [opMe] at qg
            | _ => simp [opMe] at qg
      | _ => cases hk
  · exact q.elim
theorem c_bits {apos : Pos} (ho : PE X x (tE X.K T W (evE G F a))) (hb : isCall x = false) (hl : (apos.endLine == pos.line) = true) :
    PE X (.Call (.Attribute x "bit_length" apos) [] [] pos) (tE X.K T W (evE G F (.me .bits a .nil))) := by
  refine pe_imp (pe_bits (peA ho) (base_plain hb) hl) fun σ H Q ⟨FH, s, R, q⟩ => ?_
  simp only [evE, evEs, Out.bind_ok] at q
  refine ⟨FH, s, R, q.bind.imp fun FH1 s1 H1 v _ A1 q u r1 => ?_⟩
  obtain ⟨_, q⟩ := q
  split at q
  · next hk =>
    obtain ⟨z, qg, hz⟩ := post_ofO A1 q
    cases hx : rdv s1 v with
    | none => rw [hx] at hk; cases hk
    | some d =>
      rw [hx] at hk qg
      simp only [rdAll, Option.bind_some] at qg
      cases d with
      | int i =>
        simp only [opMe] at qg
        cases qg
        exact ⟨i, r1.rd A1.rl hx, hz _ _ res_int⟩
      | _ => cases hk
  · exact q.elim

/-! ### subscripts, slices -/
theorem c_sub (hu : X.A.units + 65 < cLine) (ha : PE X x (tE X.K T W (evE G F a))) (hb : PE X y (tE X.K T W (evE G F b))) (hs : isSlice y = false) : PE X (.Subscript x y pos) (tE X.K T W (evE G F (.sub a b))) :=
  pe_imp (pe_ix (sub_ok hu) (peA ha) (peA hb) (plain_ix hs)) fun σ H Q h => tOp_of (snd_rG2 X.K _) h
def tO (K : PySem.W.Frag) (T : XT) (W : WX) (ev : En → Out (Option Int)) : TO := fun σ H Q => ∃ FH s, Rl K FH s σ H ∧ Post K T W FH s σ H (fun FH' s' H' o => Q o H') (ev s)
theorem po_imp {X : Cx} {e : Option Expr} {t t' : TO} (h : PO X e t) (i : ∀ σ H Q, t' σ H Q → t σ H Q) : PO X e t' := ⟨fun pins s σ H Q I q => h.run pins s σ H Q I (i σ H Q q)⟩
theorem co_no : PO X none (tO X.K T W (evO G F .no)) := po_imp po_none fun σ H Q ⟨FH, s, R, q⟩ => q FH H (.refl R)
theorem co_so (ha : PE X x (tE X.K T W (evE G F a))) : PO X (some x) (tO X.K T W (evO G F (.so a))) := by
  refine po_imp (po_some (peA ha)) fun σ H Q ⟨FH, s, R, q⟩ => ?_
  simp only [evO] at q
  refine ⟨FH, s, R, q.bind.imp fun FH1 s1 H1 v _ A1 q u r1 => ?_⟩
  obtain ⟨_, q⟩ := q
  cases hx : rdv s1 v with
  | none => rw [hx] at q; exact q.elim
  | some d =>
    rw [hx] at q
    cases d with
    | int i => exact ⟨i, r1.rd A1.rl hx, q FH1 H1 (.refl A1.rl)⟩
    | _ => exact q.elim
def rSl (K : PySem.W.Frag) : V → Option Int → Option Int → Hp → VK → Prop := fun v lo hi H Q => ∃ d x FH, sliD d lo hi = some x ∧ Same FH H ∧ DR1 K FH H d v ∧ ∀ v' H', ResOk K FH H x v' H' → Q v' H'
theorem sli_ok : L2.SlR X (rSl X.K) := by
  intro pins s σ H x v vl vu lo hi sl Q I rx hs pl pu ⟨d, r, FH, hg, sub, dr, q⟩
  cases d with
  | list ds =>
    simp only [sliD] at hg; cases hg
    obtain ⟨a, xs, rfl, ha, t⟩ := dr
    exact sl_list pins s σ H _ v vl vu lo hi sl Q I rx hs pl pu ⟨a, xs, rfl, .inl ha, fun p hp => q _ _ (res_lst hp (cut_rel t lo hi))⟩
  | tuple ds =>
    simp only [sliD] at hg
    split at hg
    · cases hg
    · next hw =>
      cases hg
      obtain ⟨a, xs, rfl, ha, t⟩ := dr
      exact sl_tup pins s σ H _ v vl vu lo hi sl Q I rx hs pl pu ⟨a, xs, rfl, same_sqt sub ha, by rw [← t.len]; exact hw, fun p hp => q _ _ (res_tup hp (cut_rel t lo hi))⟩
  | str z =>
    simp only [sliD] at hg
    split at hg
    · next hz =>
      cases hg; cases dr
      exact sl_str pins s σ H _ v vl vu lo hi sl Q I rx hs pl pu ⟨z, rfl, hz, q _ _ res_str⟩
    · cases hg
  | _ => simp [sliD] at hg
theorem c_sli {l h : Oe} {lo hi : Option Expr} {p2 : Pos} (ha : PE X x (tE X.K T W (evE G F a))) (hl : PO X lo (tO X.K T W (evO G F l))) (hh : PO X hi (tO X.K T W (evO G F h))) : PE X (.Subscript x (.Slice lo hi none p2) pos) (tE X.K T W (evE G F (.sli a l h))) := by
  refine pe_imp (pe_slice sli_ok (peA ha) hl hh) fun σ H Q ⟨FH, s, R, q⟩ => ?_
  simp only [evE] at q
  refine ⟨FH, s, R, q.bind.imp fun FH1 s1 H1 v _ A1 q u r1 => ⟨FH1, s1, A1.rl, q.2.bind.imp fun FH2 s2 H2 o1 _ A2 q => ⟨FH2, s2, A2.rl, q.2.bind.imp fun FH3 s3 H3 o2 _ A3 q => ?_⟩⟩⟩
  obtain ⟨z, qg, hz⟩ := post_ofO (A1.trans (A2.trans A3)) q.2
  cases hx : rdv s3 v with
  | none => rw [hx] at qg; cases qg
  | some d =>
    rw [hx] at qg
    exact ⟨d, z, FH3, qg, A3.rl.sub, (r1.mono (A2.trans A3).st.fle).rd A3.rl hx, hz⟩
theorem c_slr {k : Nat} {p1 p2 p3 : Pos} (ha : PE X x (tE X.K T W (evE G F a))) : PE X (.Subscript x (.Slice none none (some (.UnaryOp .USub (.Constant (.int 1) k p1) p2)) p3) pos) (tE X.K T W (evE G F (.slr a))) := by
  refine pe_imp (pe_revL (peA ha)) fun σ H Q ⟨FH, s, R, q⟩ => ?_
  simp only [evE] at q
  refine ⟨FH, s, R, q.bind.imp fun FH1 s1 H1 v _ A1 q u r1 => ?_⟩
  obtain ⟨z, qg, hz⟩ := post_ofO A1 q.2
  cases hx : rdv s1 v with
  | none => rw [hx] at qg; cases qg
  | some d =>
    rw [hx, Option.bind_some] at qg
    cases d with
    | list ds =>
      simp only [slrD] at qg; cases qg
      obtain ⟨p, us, rfl, hp, t⟩ := r1.rd A1.rl hx
      exact ⟨p, us, rfl, .inl hp, fun p' hp' => hz _ _ (res_lst hp' t.rev)⟩
    | _ => simp [slrD] at qg

/-! ### displays -/
theorem c_tup {k2 : Nat} (ha : PA X xs (tFs X.K T W (evFs G F es))) (hl : lenEs es ≤ 1000) : PE X (.Tuple xs k2 pos) (tE X.K T W (evE G F (.tup es))) := by
  refine pe_imp (pe_tup ha) fun σ H Q ⟨FH, s, R, q⟩ => ?_
  simp only [evE] at q
  refine ⟨FH, s, R, q.bind.imp fun FH1 s1 H1 ds e1 A1 q vs r1 => ⟨by rw [← r1.len, evFs_len _ _ _ _ e1, sizeLine_eq]; omega, fun p hp => ?_⟩⟩
  obtain ⟨FH2, A2, vr⟩ := res_after A1.rl (res_tup hp r1)
  exact q.2 FH2 _ A2 _ vr
theorem c_lst (ha : PA X xs (tFs X.K T W (evFs G F es))) (hl : lenEs es ≤ 1000) : PE X (.List xs pos) (tE X.K T W (evE G F (.lst es))) := by
  refine pe_imp (pe_lst ha) fun σ H Q ⟨FH, s, R, q⟩ => ?_
  simp only [evE] at q
  refine ⟨FH, s, R, q.bind.imp fun FH1 s1 H1 ds e1 A1 q vs r1 => ⟨by rw [← r1.len, evFs_len _ _ _ _ e1, sizeLine_eq]; omega, fun p hp => ?_⟩⟩
  obtain ⟨FH2, A2, vr⟩ := res_after A1.rl (res_lst hp r1)
  exact q.2 FH2 _ A2 _ (vr.from fun p' hp' => A1.st.aloc p' hp')
theorem c_fz (ha : PE X x (tE X.K T W (evE G F a))) : PE X x (tE X.K T W (evE G F (.fz a))) := by
  refine pe_imp (peF ha) fun σ H Q ⟨FH, s, R, q⟩ => ?_
  simp only [evE] at q
  exact ⟨FH, s, R, q.bind.imp fun FH1 s1 H1 d _ A1 q v r1 => q.2 FH1 H1 (.refl A1.rl) v r1⟩
theorem pt_fz (ha : PE X x (tE X.K T W (evE G F a))) (h : ∀ whole, isTrue x X.env whole = (do let v ← whole; standAt x.pos; holding [v] (truthy v))) : PT X x (tQ X.K T W (tests (evE G F (.fz a)))) := pt_of (c_fz ha) h
end
end PV

namespace PV
open PySem PySem.Spec PyProof.Rows L2

/-! ### dict displays -/
def DRp (K : PySem.W.Frag) (FH : Hp) : List (PyData × PyData) → List (V × V) → Prop
  | [], vs => vs = []
  | p :: ps, vs => ∃ u w r, vs = (u, w) :: r ∧ DR K FH p.1 u ∧ DR K FH p.2 w ∧ DRp K FH ps r
theorem drp_keys {K : PySem.W.Frag} {FH : Hp} : ∀ {ps : List (PyData × PyData)} {vs : List (V × V)}, DRp K FH ps vs → (ps.all fun p => isKey p.1) = true → ∃ kvs : List (Key × V), vs = kvs.map (fun kv => (kV kv.1, kv.2)) ∧ DRk K FH ps kvs
  | [], vs, r, _ => ⟨[], r, by simp [DRk]⟩
  | p :: ps, vs, r, h => by
    obtain ⟨u, w, rr, rfl, r1, r2, r3⟩ := r
    rw [List.all_cons, Bool.and_eq_true] at h
    obtain ⟨key, e1, e2⟩ := key_of (H := FH) h.1 (DR.one (fun _ _ h => h) r1)
    obtain ⟨kvs, e3, e4⟩ := drp_keys r3 h.2
    refine ⟨(key, w) :: kvs, by rw [e3, e1]; rfl, ?_⟩
    obtain ⟨pk, pd⟩ := p
    unfold DRk
    exact ⟨key, w, kvs, rfl, e2.symm, r2, e4⟩
theorem drk_any {K : PySem.W.Frag} {FH : Hp} (k : Key) : ∀ {ps : List (PyData × PyData)} {kvs : List (Key × V)}, DRk K FH ps kvs → (ps.any fun q => keyEq q.1 (keyD k)) = (kvs.any fun q => decide (q.1 = k))
  | [], kvs, r => by
    have e : kvs = [] := by simpa [DRk] using r
    subst e; rfl
  | (pk, pd) :: ps, kvs, r => by
    unfold DRk at r
    obtain ⟨key, w, rr, rfl, e1, _, r3⟩ := r
    rw [List.any_cons, List.any_cons, drk_any k r3]
    show (keyEq pk (keyD k) || _) = _
    rw [e1, keyEq_D]
theorem merge_apart {K : PySem.W.Frag} {FH : Hp} : ∀ {ps : List (PyData × PyData)} {kvs acc : List (Key × V)}, DRk K FH ps kvs → keysApart ps = true → (∀ q ∈ acc, ∀ p ∈ kvs, q.1 ≠ p.1) → mergeK acc kvs = acc ++ kvs
  | [], kvs, acc, r, _, _ => by
    have e : kvs = [] := by simpa [DRk] using r
    subst e
    show acc = _
    simp
  | (pk, pd) :: ps, kvs, acc, r, h, ha => by
    unfold DRk at r
    obtain ⟨key, w, rr, rfl, e1, _, r3⟩ := r
    simp only [keysApart, Bool.and_eq_true, Bool.not_eq_true'] at h
    have h1 := h.1
    rw [e1, drk_any key r3] at h1
    have hput : putK acc key w = acc ++ [(key, w)] := by
      unfold putK
      rw [if_neg]
      intro hh
      rw [List.any_eq_true] at hh
      obtain ⟨q, hq, e⟩ := hh
      exact ha q hq (key, w) (by simp) (of_decide_eq_true e)
    show mergeK (putK acc key w) rr = _
    rw [hput, merge_apart r3 h.2]
    · simp
    · intro q hq p hp
      rcases List.mem_append.mp hq with z | z
      · exact ha q z p (by simp [hp])
      · have e : q = (key, w) := by simpa using z
        subst e
        intro e
        rw [List.any_eq_false] at h1
        exact h1 p hp (by simp [← e])

section
variable {X : Cx} {T : XT} {W : WX} {x y z : Expr} {xs : List Expr} {pos : Pos} {G : Cf} {F : CF} {a b c : E} {es : Es}
def trsOf (K : PySem.W.Frag) (T : XT) (W : WX) (G : Cf) (F : CF) : Es → List (TE × TE)
  | .cons k (.cons v r) => (tF K T W (frz (evE G F k)), tF K T W (frz (evE G F v))) :: trsOf K T W G F r
  | _ => []
theorem tPairs_of : ∀ {es : Es} {FH : Hp} {s : En} {σ : Sto} {H : Hp} {Q : List (V × V) → Hp → Prop}, Rl X.K FH s σ H → Post X.K T W FH s σ H (fun FH' s' H' ps => ∀ vs, DRp X.K FH' ps vs → Q vs H') (evD G F es s) → tPairs (trsOf X.K T W G F es) σ H Q
  | .nil, FH, s, σ, H, Q, R, q => q FH H (.refl R) [] rfl
  | .cons _ .nil, FH, s, σ, H, Q, R, q => q.elim
  | .cons k (.cons v r), FH, s, σ, H, Q, R, q => by
    simp only [evD] at q
    refine ⟨FH, s, R, q.bind.imp fun FH1 s1 H1 d1 _ A1 q u r1 => ⟨FH1, s1, A1.rl, q.2.bind.imp fun FH2 s2 H2 d2 _ A2 q w r2 => tPairs_of A2.rl (q.2.bind.imp fun FH3 s3 H3 ps _ A3 q vs r3 => ?_)⟩⟩
    exact q.2 FH3 H3 (.refl A3.rl) _ ⟨u, w, vs, rfl, DR.mono (A2.trans A3).st.fle _ _ r1, DR.mono A3.st.fle _ _ r2, r3⟩
theorem evD_len : ∀ (es : Es) (s s' : En) (ps : List (PyData × PyData)), evD G F es s = .ok ps s' → 2 * ps.length = lenEs es
  | .nil, s, s', vs, h => by simp only [evD] at h; cases h; rfl
  | .cons _ .nil, s, s', vs, h => by simp [evD] at h
  | .cons k (.cons v r), s, s', vs, h => by
    simp only [evD] at h
    cases h1 : frz (evE G F k) s with
    | stuck => rw [h1] at h; cases h
    | exc _ _ => rw [h1] at h; cases h
    | ok d s1 =>
      rw [h1, Out.bind_ok] at h
      cases h2 : frz (evE G F v) s1 with
      | stuck => rw [h2] at h; cases h
      | exc _ _ => rw [h2] at h; cases h
      | ok d2 s2 =>
        rw [h2, Out.bind_ok] at h
        cases h3 : evD G F r s2 with
        | stuck => rw [h3] at h; cases h
        | exc _ _ => rw [h3] at h; cases h
        | ok ps s3 =>
          rw [h3, Out.bind_ok] at h
          cases h
          have := evD_len r s2 _ ps h3
          show 2 * (ps.length + 1) = lenEs r + 1 + 1
          omega
theorem c_dic0 : PE X (.Dict [] [] pos) (tE X.K T W (evE G F (.dic .nil))) := by
  refine pe_imp pe_dnewK fun σ H Q ⟨FH, s, R, q⟩ p hp => ?_
  simp only [evE, evD, Out.bind_ok] at q
  obtain ⟨FH2, A2, vr⟩ := res_after (x := .fresh (.dict [])) R ⟨p, .dK [], rfl, hp, rfl, [], upd_same, by simp [DRk]⟩
  exact q FH2 _ A2 _ vr
theorem c_dic {keys : List (Option Expr)} {values : List Expr} (h : PPs X pos keys values (trsOf X.K T W G F es)) (hall : keys.all (·.isSome) = true) (hl : keys.length = values.length) (h0 : keys ≠ []) (h15 : keys.length ≤ 15) (hn : lenEs es = 2 * keys.length) :
    PE X (.Dict keys values pos) (tE X.K T W (evE G F (.dic es))) := by
  refine pe_imp (pe_disp h hall hl h0 h15) fun σ H Q ⟨FH, s, R, q⟩ p hp => ?_
  simp only [evE] at q
  have nf := none_sub R.sub hp
  obtain ⟨R1, S1⟩ := R.laid (o := .dK []) hp
  -- the evaluator from the state with the new dict
  have q' : Post X.K T W FH s σ (upd H p (.dK [])) (fun FH' s' H' ps => ∀ vs, DRp X.K FH' ps vs → H' p = some (.dK []) ∧ ∃ kvs : List (Key × V), vs = kvs.map (fun kv => (kV kv.1, kv.2)) ∧ kvs.length ≤ 15 ∧ Q (.ref p) (upd H' p (.dK (mergeK [] kvs)))) (evD G F es s) := by
    have nown : ¬ ownAt s σ p := fun ⟨i, d, h1, h2⟩ => no_slot R hp i _ h1 rfl h2
    have nmine : ¬ mineAt s σ p := fun ⟨i, d, h1, hm, h2⟩ => no_slot R hp i _ h1 hm h2
    have hq := q.bind
    generalize ho : evD G F es s = o at hq
    cases o with
    | stuck => exact hq.elim
    | exc c s' =>
      intro FH' H' cls d A ex
      refine hq FH' H' cls d ⟨A.rl, ?_⟩ ex
      exact S1.trans A.st
    | ok ps s' =>
      intro FH' H' A vs rps
      have hD : H' p = some (.dK []) := A.st.keep p _ upd_same nown
      have nFp : FH' p = none := A.st.fnew p nf (by rw [upd_same]; simp) nown
      have noS : ∀ (j : Nat) (sl : Slot), s'[j]? = some (some sl) → sl.mine = true → σ[j]? ≠ some (some (V.ref p)) := fun j sl h1 h2 h3 => by
        rcases A.st.mn p ⟨j, sl, h1, h2, h3⟩ with z | z
        · exact nmine z
        · rw [upd_same] at z; cases z
      have A0 : After X.K FH s σ H FH' s' H' := ⟨A.rl, S1.trans A.st⟩
      have q2 := (hq FH' H' A0).2
      split at q2
      · next hk =>
        rw [Bool.and_eq_true] at hk
        obtain ⟨kvs, e1, e2⟩ := drp_keys rps hk.1
        refine ⟨hD, kvs, e1, ?_, ?_⟩
        · have l1 := evD_len _ _ _ _ ho
          have l2 := e2.len
          omega
        · rw [merge_apart e2 hk.2 (by simp), List.nil_append]
          -- the object is written: it is nobody's slot
          have Rw : Rl X.K FH' s' σ (upd H' p (.dK kvs)) := by
            refine ⟨fun b u hb => ?_, A.rl.len, fun j sl hj => ?_, A.rl.sep⟩
            · have hne : b ≠ p := fun z => by rw [z, nFp] at hb; cases hb
              rw [upd_ne hne]; exact A.rl.sub _ _ hb
            · obtain ⟨v, e1, r⟩ := A.rl.slot j sl hj
              refine ⟨v, e1, ?_⟩
              cases hm : sl.mine with
              | false =>
                cases sl with
                | imm d' => exact r
                | own d' => cases hm
                | lok d' => cases hm
                | bor d' => cases hm
              | true =>
                obtain ⟨b, ev, nb, tb⟩ := r.mineD hm
                subst ev
                have hne : b ≠ p := fun z => noS j sl hj hm (by rw [e1, z])
                exact SlR.ofMine hm nb (tb.mono (fun _ _ h => h) fun _ q => by rw [upd_ne hne]; exact q)
          have Sw : Stp FH s σ H FH' s' σ (upd H' p (.dK kvs)) := by
            refine ⟨A0.st.fle, fun b u hb no => ?_, fun b hb => ?_, A0.st.fnew, A0.st.own, A0.st.mn, A0.st.lk⟩
            · have hne : b ≠ p := fun z => by rw [z, hp] at hb; cases hb
              rw [upd_ne hne]; exact A0.st.keep b u hb no
            · by_cases hbp : b = p
              · rw [hbp]; exact hp
              · rw [upd_ne hbp] at hb; exact A0.st.aloc b hb
          rw [ho, Out.bind_ok, if_pos (by rw [hk.1, hk.2]; rfl)] at q
          exact q FH' _ ⟨Rw, Sw⟩ (.ref p) ⟨p, rfl, nFp, hp, ⟨kvs, upd_same, e2⟩, noS⟩
      · exact q2.elim
  exact tPairs_of R1 q'
end
end PV

namespace PV
open PySem PySem.Spec PyProof.Rows L2

theorem mapI_get (f : Nat → Option Slot → Option Slot) : ∀ (l : En) (k i : Nat), (mapI f k l)[i]? = (l[i]?).map (f (k + i))
  | [], k, i => by simp [mapI]
  | x :: r, k, 0 => by simp [mapI]
  | x :: r, k, i + 1 => by
    show (mapI f (k + 1) r)[i]? = _
    rw [mapI_get f r (k + 1) i, show k + 1 + i = k + (i + 1) by omega]
    simp
theorem mapI_len (f : Nat → Option Slot → Option Slot) : ∀ (l : En) (k : Nat), (mapI f k l).length = l.length
  | [], k => rfl
  | x :: r, k => by show (mapI f (k + 1) r).length + 1 = _; rw [mapI_len f r]; rfl
theorem mapI_some {f : Nat → Option Slot → Option Slot} {l : En} {i : Nat} {t : Slot} (h : (mapI f 0 l)[i]? = some (some t)) : ∃ x, l[i]? = some x ∧ f i x = some t := by
  rw [mapI_get, Nat.zero_add] at h
  cases q : l[i]? with
  | none => rw [q] at h; cases h
  | some x => rw [q] at h; exact ⟨x, rfl, Option.some.inj h⟩
theorem lockX_some {L : List Nat} {i : Nat} {x : Option Slot} {t : Slot} (h : lockX L i x = some t) : ∃ t0, x = some t0 ∧ t.dat = t0.dat ∧ t.mine = t0.mine ∧ t.uniq = t0.uniq ∧ (∀ d, t = .own d → t0 = .own d ∧ i ∉ L) ∧ (∀ d, t = .lok d → t0 = .lok d ∨ (t0 = .own d ∧ i ∈ L)) := by
  cases x with
  | none => cases h
  | some t0 =>
    refine ⟨t0, rfl, ?_⟩
    cases t0 with
    | own d =>
      simp only [lockX] at h
      by_cases hc : L.contains i = true
      · rw [if_pos hc] at h; cases h
        exact ⟨rfl, rfl, rfl, fun _ e => (nomatch e), fun _ e => by cases e; exact .inr ⟨rfl, by simpa using hc⟩⟩
      · rw [if_neg hc] at h; cases h
        exact ⟨rfl, rfl, rfl, fun _ e => by cases e; exact ⟨rfl, by simpa using hc⟩, fun _ e => (nomatch e)⟩
    | imm d => cases h; exact ⟨rfl, rfl, rfl, fun _ e => (nomatch e), fun _ e => (nomatch e)⟩
    | lok d => cases h; exact ⟨rfl, rfl, rfl, fun _ e => (nomatch e), fun _ e => by cases e; exact .inl rfl⟩
    | bor d => cases h; exact ⟨rfl, rfl, rfl, fun _ e => (nomatch e), fun _ e => (nomatch e)⟩
theorem unlockX_some {L : List Nat} {i : Nat} {x : Option Slot} {t : Slot} (h : unlockX L i x = some t) : ∃ t0, x = some t0 ∧ t.dat = t0.dat ∧ t.mine = t0.mine ∧ t.uniq = t0.uniq ∧ (∀ d, t = .lok d → t0 = .lok d ∧ i ∉ L) ∧ (∀ d, t = .own d → t0 = .own d ∨ (t0 = .lok d ∧ i ∈ L)) := by
  cases x with
  | none => cases h
  | some t0 =>
    refine ⟨t0, rfl, ?_⟩
    cases t0 with
    | lok d =>
      simp only [unlockX] at h
      by_cases hc : L.contains i = true
      · rw [if_pos hc] at h; cases h
        exact ⟨rfl, rfl, rfl, fun _ e => (nomatch e), fun _ e => by cases e; exact .inr ⟨rfl, by simpa using hc⟩⟩
      · rw [if_neg hc] at h; cases h
        exact ⟨rfl, rfl, rfl, fun _ e => by cases e; exact ⟨rfl, by simpa using hc⟩, fun _ e => (nomatch e)⟩
    | imm d => cases h; exact ⟨rfl, rfl, rfl, fun _ e => (nomatch e), fun _ e => (nomatch e)⟩
    | own d => cases h; exact ⟨rfl, rfl, rfl, fun _ e => (nomatch e), fun _ e => by cases e; exact .inl rfl⟩
    | bor d => cases h; exact ⟨rfl, rfl, rfl, fun _ e => (nomatch e), fun _ e => (nomatch e)⟩
theorem locks_some {s : En} {L : List Nat} {i : Nat} {t : Slot} (h : (locks s L)[i]? = some (some t)) : ∃ t0, s[i]? = some (some t0) ∧ t.dat = t0.dat ∧ t.mine = t0.mine ∧ t.uniq = t0.uniq ∧ (∀ d, t = .own d → t0 = .own d ∧ i ∉ L) ∧ (∀ d, t = .lok d → t0 = .lok d ∨ (t0 = .own d ∧ i ∈ L)) := by
  obtain ⟨x, h1, h2⟩ := mapI_some h
  obtain ⟨t0, e, r⟩ := lockX_some h2
  exact ⟨t0, by rw [h1, e], r⟩
theorem unlocks_some {s : En} {L : List Nat} {i : Nat} {t : Slot} (h : (unlocks s L)[i]? = some (some t)) : ∃ t0, s[i]? = some (some t0) ∧ t.dat = t0.dat ∧ t.mine = t0.mine ∧ t.uniq = t0.uniq ∧ (∀ d, t = .lok d → t0 = .lok d ∧ i ∉ L) ∧ (∀ d, t = .own d → t0 = .own d ∨ (t0 = .lok d ∧ i ∈ L)) := by
  obtain ⟨x, h1, h2⟩ := mapI_some h
  obtain ⟨t0, e, r⟩ := unlockX_some h2
  exact ⟨t0, by rw [h1, e], r⟩
section
variable {K : PySem.W.Frag} {FH FH' H H' : Hp} {e e' : En} {σ σ' : Sto}
theorem Rl.sim (R : Rl K FH e σ H) (hl : e'.length = σ'.length) (h : ∀ (i : Nat) (t : Slot), e'[i]? = some (some t) → ∃ t0, e[i]? = some (some t0) ∧ t.dat = t0.dat ∧ t.mine = t0.mine ∧ t.uniq = t0.uniq ∧ σ'[i]? = σ[i]?) : Rl K FH e' σ' H := by
  refine ⟨R.sub, hl, fun i t ht => ?_, fun i j a d s hij hi hu hσ hj hm => ?_⟩
  · obtain ⟨t0, h0, h1, h2, h3, h4⟩ := h i t ht
    obtain ⟨v, e1, r⟩ := R.slot i t0 h0
    refine ⟨v, by rw [h4]; exact e1, ?_⟩
    cases hm : t.mine with
    | true =>
      obtain ⟨a, ev, n, tp⟩ := r.mineD (by rw [← h2]; exact hm)
      subst ev
      exact SlR.ofMine hm n (by rw [h1]; exact tp)
    | false =>
      rw [hm] at h2
      cases t with
      | imm d =>
        cases t0 with
        | imm d0 => cases h1; exact r
        | _ => cases h2
      | _ => cases hm
  · obtain ⟨t0, h0, _, h2, h3, h4⟩ := h i d hi
    obtain ⟨s0, g0, _, g2, g3, g4⟩ := h j s hj
    rw [g4]
    exact R.sep i j a t0 s0 hij h0 (by rw [← h3]; exact hu) (by rw [← h4]; exact hσ) g0 (by rw [← g2]; exact hm)
theorem Rl.lock (R : Rl K FH e σ H) (L : List Nat) : Rl K FH (locks e L) σ H :=
  R.sim ((mapI_len _ _ _).trans R.len) fun i t ht => by
    obtain ⟨t0, h0, h1, h2, h3, _⟩ := locks_some ht
    exact ⟨t0, h0, h1, h2, h3, rfl⟩
theorem Rl.unlock (R : Rl K FH e σ H) (L : List Nat) : Rl K FH (unlocks e L) σ H :=
  R.sim ((mapI_len _ _ _).trans R.len) fun i t ht => by
    obtain ⟨t0, h0, h1, h2, h3, _⟩ := unlocks_some ht
    exact ⟨t0, h0, h1, h2, h3, rfl⟩
theorem ownAt_lock {L : List Nat} {a : Addr} (h : ownAt (locks e L) σ a) : ownAt e σ a := by
  obtain ⟨i, d, h1, h2⟩ := h
  obtain ⟨t0, h0, _, _, _, h3, _⟩ := locks_some h1
  obtain ⟨rfl, _⟩ := h3 d rfl
  exact ⟨i, d, h0, h2⟩
theorem mineAt_lock {L : List Nat} {a : Addr} (h : mineAt (locks e L) σ a) : mineAt e σ a := by
  obtain ⟨i, d, h1, hm, h2⟩ := h
  obtain ⟨t0, h0, _, h3, _⟩ := locks_some h1
  exact ⟨i, t0, h0, by rw [← h3]; exact hm, h2⟩
theorem mineAt_unlock {L : List Nat} {a : Addr} (h : mineAt (unlocks e L) σ a) : mineAt e σ a := by
  obtain ⟨i, d, h1, hm, h2⟩ := h
  obtain ⟨t0, h0, _, h3, _⟩ := unlocks_some h1
  exact ⟨i, t0, h0, by rw [← h3]; exact hm, h2⟩
/-- a loop's step, its walked objects locked ahead and set free behind; L: places of own objects of e -/
theorem Stp.loop {L : List Nat} (hL : ∀ i ∈ L, ∃ d, e[i]? = some (some (.own d))) (S : Stp FH (locks e L) σ H FH' e' σ' H') : Stp FH e σ H FH' (unlocks e' L) σ' H' where
  fle := S.fle
  keep := fun a o h no => S.keep a o h fun z => no (ownAt_lock z)
  aloc := S.aloc
  fnew := fun a h1 h2 no => S.fnew a h1 h2 fun z => no (ownAt_lock z)
  own := fun a ⟨i, d, h1, h2⟩ => by
    obtain ⟨t0, h0, _, _, _, _, h3⟩ := unlocks_some h1
    rcases h3 d rfl with rfl | ⟨rfl, hi⟩
    · rcases S.own a ⟨i, d, h0, h2⟩ with z | z
      · exact .inl (ownAt_lock z)
      · exact .inr z
    · obtain ⟨g1, g2⟩ := S.lk i d h0
      obtain ⟨d0, g3⟩ := hL i hi
      exact .inl ⟨i, d0, g3, by rw [← g2]; exact h2⟩
  mn := fun a z => by
    rcases S.mn a (mineAt_unlock z) with z | z
    · exact .inl (mineAt_lock z)
    · exact .inr z
  lk := fun i d h => by
    obtain ⟨t0, h0, _, _, _, h3, _⟩ := unlocks_some h
    obtain ⟨rfl, hi⟩ := h3 d rfl
    obtain ⟨g1, g2⟩ := S.lk i d h0
    obtain ⟨t1, k0, _, _, _, _, k3⟩ := locks_some g1
    rcases k3 d rfl with rfl | ⟨_, z⟩
    · exact ⟨k0, g2⟩
    · exact absurd z hi
theorem lokI_own {s : En} : ∀ {vs : List Vl}, ∀ i ∈ lokI s vs, ∃ d, s[i]? = some (some (.own d))
  | [], i, h => by simp [lokI] at h
  | .imm d :: r, i, h => lokI_own (vs := r) i h
  | .fresh d :: r, i, h => lokI_own (vs := r) i h
  | .vr j :: r, i, h => by
    simp only [lokI] at h
    split at h
    · next d e =>
      rcases List.mem_cons.mp h with z | z
      · subst z; exact ⟨d, e⟩
      · exact lokI_own (vs := r) i z
    · exact lokI_own (vs := r) i h
theorem lokI_mem {s : En} {j : Nat} {d : PyData} (e : s[j]? = some (some (.own d))) : ∀ {vs : List Vl}, Vl.vr j ∈ vs → j ∈ lokI s vs
  | [], h => by simp at h
  | v :: r, h => by
    rcases List.mem_cons.mp h with z | z
    · subst z
      simp only [lokI, e]; simp
    · have ih := lokI_mem e (vs := r) z
      cases v with
      | imm _ => exact ih
      | fresh _ => exact ih
      | vr k =>
        simp only [lokI]
        split
        · exact List.mem_cons_of_mem _ ih
        · exact ih
/-- a list that is walked: it stands, nobody changes it -/
theorem walk_list (R : Rl K FH e σ H) {x : Vl} {v : V} {ds : List PyData} {vs : List Vl} (r : AgR K FH σ v x) (h : rdv e x = some (.list ds)) (hx : x ∈ vs) : ∃ a xs o, v = .ref a ∧ (o = .lst xs ∨ ∃ ob, o = .frz ob (.lst xs)) ∧ H a = some o ∧ DRs K FH ds xs ∧ ¬ ownAt (locks e (lokI e vs)) σ a := by
  obtain ⟨a, xs, ev, hr, dr⟩ := r.rd R h
  subst ev
  obtain ⟨o, ho, hoo⟩ : ∃ o, H a = some o ∧ (o = .lst xs ∨ ∃ ob, o = .frz ob (.lst xs)) := by
    rcases hr with hr | ⟨ob, hr⟩
    · exact ⟨_, hr, .inl rfl⟩
    · exact ⟨_, hr, .inr ⟨ob, rfl⟩⟩
  refine ⟨a, xs, o, rfl, hoo, ho, dr, ?_⟩
  rintro ⟨j, d, h1, h2⟩
  obtain ⟨t0, h0, _, _, _, h3, _⟩ := locks_some h1
  obtain ⟨rfl, hj⟩ := h3 d rfl
  obtain ⟨b, ob, e1, _, nb, _⟩ := R.mineSome h0 rfl
  rw [h2] at e1; cases e1
  have froz : ∀ {d' : PyData}, DR K FH d' (.ref a) → d' = .list ds → False := fun {d'} q e' => by
    subst e'
    unfold DR at q
    obtain ⟨b, ys, eb, hb, _⟩ := q
    cases eb
    rcases hb with hb | ⟨ob, hb⟩ <;> rw [nb] at hb <;> cases hb
  cases x with
  | imm d' => exact froz r (Option.some.inj h)
  | fresh d' => exact froz r (Option.some.inj h)
  | vr i =>
    have r' : σ[i]? = some (some (V.ref a)) := r
    obtain ⟨sl, hs, hd⟩ := rdv_some h
    by_cases hij : j = i
    · subst hij
      exact hj (lokI_mem h0 hx)
    · cases hm : sl.mine with
      | true => exact R.sep j i a _ sl hij h0 rfl h2 hs hm r'
      | false =>
        obtain ⟨u, hu, q⟩ := R.slot i sl hs
        rw [r'] at hu; cases hu
        cases sl with
        | imm d' => exact froz q hd
        | own _ => cases hm
        | lok _ => cases hm
        | bor _ => cases hm
end
end PV

namespace PV
open PySem PySem.Spec PyProof.Rows L2

/-- an iterator yields the data ds while the objects as stand -/
structure Wk (K : PySem.W.Frag) (J : L2.It) (FH : Hp) (ds : List PyData) (as : List (Addr × HO)) : Prop where
  stop : ∀ H, (∀ p ∈ as, H p.1 = some p.2) → Same FH H → J.stop ds.length H
  go : ∀ i H, (∀ p ∈ as, H p.1 = some p.2) → Same FH H → i < ds.length → J.go i H
  yld : ∀ i H x H' d, (∀ p ∈ as, H p.1 = some p.2) → Same FH H → ds[i]? = some d → J.yld i H x H' → ResOk K FH H (.imm d) x H'
def iR (K : PySem.W.Frag) (T : XT) (W : WX) (rg : Bool) (ev : En → Out (List PyData × List Vl)) : TI := fun σ H R => ∃ FH s, Rl K FH s σ H ∧
  Post K T W FH s σ H (fun FH' s' H' p => ∀ J as, Wk K J FH' p.1 as → (∀ q ∈ as, H' q.1 = some q.2 ∧ ¬ ownAt (locks s' (lokI s' p.2)) σ q.1) → (rg = false → p.1.length ≤ sizeLine) → R J H') (ev s)
theorem one_q {α : Type} {P : α → Prop} {a : α} (h : P a) : ∀ q ∈ [a], P q := fun q hq => by
  have e : q = a := by simpa using hq
  subst e; exact h
theorem pi_imp {X : Cx} {tg e : Expr} {t t' : TI} (h : PI X tg e t) (i : ∀ σ H Q, t' σ H Q → t σ H Q) : PI X tg e t' := ⟨fun pins s σ H Q I q => h.run pins s σ H Q I (i σ H Q q)⟩

section
variable {K : PySem.W.Frag} {FH : Hp} {ds es : List PyData} {xs ys : List V} {a b : Addr} {o o2 : HO}
theorem sql_of {H : Hp} (h : H a = some o) (ho : o = .lst xs ∨ ∃ ob, o = .frz ob (.lst xs)) : SqL K H a xs := by
  rcases ho with rfl | ⟨ob, rfl⟩
  · exact .inl (.inl h)
  · exact .inl (.inr ⟨ob, h⟩)
theorem wk_list (ho : o = .lst xs ∨ ∃ ob, o = .frz ob (.lst xs)) (dr : DRs K FH ds xs) : Wk K (Itl K a) FH ds [(a, o)] := by
  have l := dr.len
  refine ⟨fun H h _ => ⟨xs, sql_of (h (a, o) (by simp)) ho, by omega⟩, fun i H h _ hi => ⟨xs, xs[i]'(by omega), sql_of (h (a, o) (by simp)) ho, List.getElem?_eq_getElem (by omega)⟩, fun i H x H' d h _ hd y => ?_⟩
  obtain ⟨rfl, y⟩ := y
  have e := y xs (sql_of (h (a, o) (by simp)) ho)
  obtain ⟨v, e1, r⟩ := dr.get i d hd
  rw [e] at e1; cases e1
  exact .inl ⟨rfl, r⟩
theorem wk_tup (h : SqT K FH a xs) (dr : DRs K FH ds xs) : Wk K (Itt K a) FH ds [] := by
  have l := dr.len
  refine ⟨fun H _ sub => ⟨xs, same_sqt sub h, by omega⟩, fun i H _ sub hi => ⟨xs, xs[i]'(by omega), same_sqt sub h, List.getElem?_eq_getElem (by omega)⟩, fun i H x H' d _ sub hd y => ?_⟩
  obtain ⟨rfl, y⟩ := y
  have e := y xs (same_sqt sub h)
  obtain ⟨v, e1, r⟩ := dr.get i d hd
  rw [e] at e1; cases e1
  exact .inl ⟨rfl, r⟩
theorem wk_str (z : Str) : Wk K (Its z) FH (chars z) [] := by
  have l : (chars z).length = z.cps.size := by simp [chars]
  refine ⟨fun H _ _ => Nat.le_of_eq l.symm, fun i H _ _ hi => by rw [l] at hi; exact hi, fun i H x H' d _ _ hd y => ?_⟩
  obtain ⟨rfl, c, hc, rfl⟩ := y
  have : d = .str ⟨#[c]⟩ := by
    unfold chars at hd
    rw [List.getElem?_map, Array.getElem?_toList, hc] at hd
    exact (Option.some.inj hd).symm
  subst this
  exact .inl ⟨rfl, by unfold DR; rfl⟩
theorem wk_rng (lo hi : Int) : Wk K (Itr lo (hi - lo).toNat) FH (rangeD lo hi) [] := by
  have l : (rangeD lo hi).length = (hi - lo).toNat := by simp [rangeD]
  refine ⟨fun H _ _ => Nat.le_of_eq l.symm, fun i H _ _ hi' => by rw [l] at hi'; exact hi', fun i H x H' d _ _ hd y => ?_⟩
  obtain ⟨rfl, rfl⟩ := y
  have hi' : i < (hi - lo).toNat := by rw [← l]; exact (List.getElem?_eq_some_iff.mp hd).1
  have : d = .int (lo + (i : Nat)) := by
    unfold rangeD at hd
    rw [List.getElem?_map, List.getElem?_range hi'] at hd
    exact (Option.some.inj hd).symm
  subst this
  exact .inl ⟨rfl, by unfold DR; rfl⟩
theorem drs_two {d e : PyData} {x y : V} (r : DR K FH d x) (s : DR K FH e y) : DRs K FH [d, e] [x, y] := .cons r (.cons s .nil)
theorem enumD_get (ds : List PyData) (i : Nat) : (enumD ds)[i]? = (ds[i]?).map fun d => .tuple [.int (i : Nat), d] := by
  unfold enumD
  rw [List.getElem?_map, List.getElem?_zipIdx]
  cases ds[i]? <;> simp
theorem wk_enum (ho : o = .lst xs ∨ ∃ ob, o = .frz ob (.lst xs)) (dr : DRs K FH ds xs) : Wk K (Ite K a) FH (enumD ds) [(a, o)] := by
  have l := dr.len
  have l2 : (enumD ds).length = ds.length := by simp [enumD]
  refine ⟨fun H h _ => ⟨xs, sql_of (h (a, o) (by simp)) ho, by omega⟩, fun i H h _ hi => ⟨xs, xs[i]'(by omega), sql_of (h (a, o) (by simp)) ho, List.getElem?_eq_getElem (by omega)⟩, fun i H x H' d h _ hd y => ?_⟩
  obtain ⟨t, v, rfl, ht, rfl, y⟩ := y
  have e := y xs (sql_of (h (a, o) (by simp)) ho)
  rw [enumD_get] at hd
  obtain ⟨d0, h0, rfl⟩ := Option.map_eq_some_iff.mp hd
  obtain ⟨v', e1, r⟩ := dr.get i d0 h0
  rw [e] at e1; cases e1
  exact .inr ⟨t, _, _, rfl, ht, rfl, rfl, drs_two (by unfold DR; rfl) r⟩
theorem zipD_len : ∀ ds es : List PyData, (zipD ds es).length = min ds.length es.length
  | [], es => by simp [zipD]
  | d :: ds, [] => by simp [zipD]
  | d :: ds, e :: es => by simp [zipD, zipD_len ds es]
theorem zipD_get : ∀ (ds es : List PyData) (i : Nat) (z : PyData), (zipD ds es)[i]? = some z → ∃ d e, ds[i]? = some d ∧ es[i]? = some e ∧ z = .tuple [d, e]
  | [], es, i, z, h => by simp [zipD] at h
  | d :: ds, [], i, z, h => by simp [zipD] at h
  | d :: ds, e :: es, 0, z, h => by simp [zipD] at h; exact ⟨d, e, rfl, rfl, h.symm⟩
  | d :: ds, e :: es, i + 1, z, h => by
    simp only [zipD, List.getElem?_cons_succ] at h ⊢
    exact zipD_get ds es i z h
theorem wk_zipL (ho : o = .lst xs ∨ ∃ ob, o = .frz ob (.lst xs)) (ho2 : o2 = .lst ys ∨ ∃ ob, o2 = .frz ob (.lst ys)) (dr : DRs K FH ds xs) (dr2 : DRs K FH es ys) : Wk K (Itz K a b) FH (zipD ds es) [(a, o), (b, o2)] := by
  have l1 := dr.len
  have l2 := dr2.len
  have l3 := zipD_len ds es
  have g1 : ∀ {H : Hp}, (∀ p ∈ [(a, o), (b, o2)], H p.1 = some p.2) → SqL K H a xs := fun h => sql_of (h (a, o) (by simp)) ho
  have g2 : ∀ {H : Hp}, (∀ p ∈ [(a, o), (b, o2)], H p.1 = some p.2) → SqL K H b ys := fun h => sql_of (h (b, o2) (by simp)) ho2
  refine ⟨fun H h _ => ⟨xs, ys, g1 h, g2 h, by omega⟩, fun i H h _ hi => ⟨xs, ys, xs[i]'(by omega), ys[i]'(by omega), g1 h, g2 h, List.getElem?_eq_getElem (by omega), List.getElem?_eq_getElem (by omega)⟩, fun i H x H' d h _ hd y => ?_⟩
  obtain ⟨t, u, v, rfl, ht, rfl, y1, y2⟩ := y
  obtain ⟨d1, d2, h1, h2, rfl⟩ := zipD_get _ _ _ _ hd
  obtain ⟨v1, e1, r1⟩ := dr.get i d1 h1
  obtain ⟨v2, e2, r2⟩ := dr2.get i d2 h2
  rw [y1 xs (g1 h)] at e1; cases e1
  rw [y2 ys (g2 h)] at e2; cases e2
  exact .inr ⟨t, _, _, rfl, ht, rfl, rfl, drs_two r1 r2⟩
theorem wk_zipT (h1 : SqT K FH a xs) (h2 : SqT K FH b ys) (dr : DRs K FH ds xs) (dr2 : DRs K FH es ys) : Wk K (RZ.ItzT K a b) FH (zipD ds es) [] := by
  have l1 := dr.len
  have l2 := dr2.len
  have l3 := zipD_len ds es
  refine ⟨fun H _ sub => ⟨xs, ys, same_sqt sub h1, same_sqt sub h2, by omega⟩, fun i H _ sub hi => ⟨xs, ys, xs[i]'(by omega), ys[i]'(by omega), same_sqt sub h1, same_sqt sub h2, List.getElem?_eq_getElem (by omega), List.getElem?_eq_getElem (by omega)⟩, fun i H x H' d _ sub hd y => ?_⟩
  obtain ⟨t, u, v, rfl, ht, rfl, y1, y2⟩ := y
  obtain ⟨d1, d2, g1, g2, rfl⟩ := zipD_get _ _ _ _ hd
  obtain ⟨v1, e1, r1⟩ := dr.get i d1 g1
  obtain ⟨v2, e2, r2⟩ := dr2.get i d2 g2
  rw [y1 xs (same_sqt sub h1)] at e1; cases e1
  rw [y2 ys (same_sqt sub h2)] at e2; cases e2
  exact .inr ⟨t, _, _, rfl, ht, rfl, rfl, drs_two r1 r2⟩
end

section
variable {X : Cx} {T : XT} {W : WX} {x y z tg : Expr} {pos : Pos} {G : Cf} {F : CF} {a b c : E}
/-- no list, no tuple is longer than sizeLine -/
def Short (K : PySem.W.Frag) (v : V) (H : Hp) : Prop := ∀ a xs, v = .ref a → SqL K H a xs ∨ SqT K H a xs → xs.length ≤ sizeLine
theorem pe_len {t : TE} (h : PE X x t) : PE X x (fun σ H Q => t σ H fun v H1 => Short X.K v H1 → Q v H1) := by
  refine ⟨fun pins s σ H Q I q => thn (h.run pins s σ H _ I q) fun u s1 ⟨v, H1, I1, r1, q⟩ => ⟨v, H1, I1, r1, q fun a xs _ hs => ?_⟩⟩
  rcases hs with hs | hs
  · exact (I1.list hs).elim fun _ z => z.2.2
  · exact (I1.tuple hs).elim fun _ z => z.2.2
def tS (K : PySem.W.Frag) (t : TE) : TE := fun σ H Q => t σ H fun v H1 => Short K v H1 → Q v H1
theorem peS {t : TE} (h : PE X x t) : PE X x (tS X.K t) := pe_len h
def iAny (K : PySem.W.Frag) (te : TE) : TI := fun σ H R => te σ H fun x H1 => (∃ a xs, x = .ref a ∧ SqL K H1 a xs ∧ R (Itl K a) H1) ∨ (∃ a xs, x = .ref a ∧ SqT K H1 a xs ∧ R (Itt K a) H1) ∨ ∃ z, x = .str z ∧ R (Its z) H1
theorem pi_any {te : TE} (he : PE X x te) : PI X tg x (iAny X.K te) := by
  refine ⟨fun pins s σ H R I h => thn (he.run pins s σ H _ I h) fun u s1 ⟨v, H1, I1, r1, q⟩ => ?_⟩
  rcases q with ⟨a, xs, rfl, hq, q⟩ | ⟨a, xs, rfl, hq, q⟩ | ⟨w, rfl, q⟩
  · cases r1
    obtain ⟨its, _, p, _⟩ := I1.list hq
    exact wpAny_pyIter_list p.isList (pi_one (tk := s1.toks) I1 _ (turn_list a _) ⟨_, Heap.get?_push_size _ rfl, rfl, rfl⟩ q)
  · cases r1
    obtain ⟨its, _, p, _⟩ := I1.tuple hq
    exact wpAny_pyIter_tuple (items := its.toArray) p (pi_one (tk := s1.toks) I1 _ (turn_tuple a _) ⟨_, Heap.get?_push_size _ rfl, rfl, rfl⟩ q)
  · obtain ⟨t, rfl⟩ := r1
    cases ha : w.cps.all (· < 128)
    · exact wpAny_pyIter_wide ha (pi_one (tk := s1.toks) I1 _ (turn_str _ w t "str_iterator" (.inr rfl)) ⟨_, Heap.get?_push_size _ rfl, rfl, rfl⟩ q)
    · exact wpAny_pyIter_ascii ha (pi_one (tk := s1.toks) I1 _ (turn_str _ w t "str_ascii_iterator" (.inl rfl)) ⟨_, Heap.get?_push_size _ rfl, rfl, rfl⟩ q)
theorem ci_seq (ha : PE X x (tE X.K T W (evE G F a))) : PI X tg x (iR X.K T W false (evI G F (.seq a))) := by
  refine pi_imp (pi_any (peS (peA ha))) fun σ H R ⟨FH, s, Rr, q⟩ => ?_
  simp only [evI] at q
  refine ⟨FH, s, Rr, q.bind.imp fun FH1 s1 H1 v _ A1 q u r1 sh => ?_⟩
  obtain ⟨_, q⟩ := q
  cases hx : rdv s1 v with
  | none => rw [hx] at q; exact q.elim
  | some d =>
    rw [hx] at q
    cases d with
    | list ds =>
      obtain ⟨p, xs, o, rfl, ho, hp, dr, no⟩ := walk_list (vs := [v]) A1.rl r1 hx (by simp)
      exact .inl ⟨p, xs, rfl, sql_of hp ho, q FH1 H1 (.refl A1.rl) _ _ (wk_list ho dr) (one_q ⟨hp, no⟩) fun _ => by rw [dr.len]; exact sh p xs rfl (.inl (sql_of hp ho))⟩
    | tuple ds =>
      obtain ⟨p, xs, rfl, hs, dr⟩ := r1.rd A1.rl hx
      exact .inr (.inl ⟨p, xs, rfl, same_sqt A1.rl.sub hs, q FH1 H1 (.refl A1.rl) _ [] (wk_tup hs dr) (by simp) fun _ => by rw [dr.len]; exact sh p xs rfl (.inr (same_sqt A1.rl.sub hs))⟩)
    | str w =>
      have e := r1.rd A1.rl hx
      simp only at q
      split at q
      · next hz => exact .inr (.inr ⟨w, e, q FH1 H1 (.refl A1.rl) _ [] (wk_str w) (by simp) fun _ => by simpa [chars, Str.length] using hz⟩)
      · exact q.elim
    | _ => exact q.elim
theorem ci_rng1 {p : Pos} (hg : Gl X "range") (hm : X.mg "range" = none) (ha : PE X x (tE X.K T W (evE G F a))) (hs : isStar x = false) : PI X tg (.Call (.Name "range" p) [x] [] pos) (iR X.K T W true (evI G F (.rng1 a))) := by
  refine pi_imp (pi_range1 hg hm (pa_cons (peA ha) pa_nil (star_cons hs)) (star_cons hs)) fun σ H R ⟨FH, s, Rr, q⟩ => ?_
  simp only [evI] at q
  refine ⟨FH, s, Rr, q.bind.imp fun FH1 s1 H1 v _ A1 q u r1 => ?_⟩
  obtain ⟨_, q⟩ := q
  cases hx : rdv s1 v with
  | none => rw [hx] at q; exact q.elim
  | some d =>
    rw [hx] at q
    cases d with
    | int i =>
      have e := r1.rd A1.rl hx
      simp only at q
      split at q
      · next hsm =>
        have hb := of_decide_eq_true hsm
        have := q FH1 H1 (.refl A1.rl) _ [] (wk_rng 0 i) (by simp) (fun z => nomatch z)
        exact ⟨i, by rw [show u = V.int i from e], hb.1, hb.2, by simpa using this⟩
      · exact q.elim
    | _ => exact q.elim
theorem ci_rng2 {p : Pos} (hg : Gl X "range") (hm : X.mg "range" = none) (ha : PE X x (tE X.K T W (evE G F a))) (hb : PE X y (tE X.K T W (evE G F b))) (hs : isStar x = false) (hs2 : isStar y = false) : PI X tg (.Call (.Name "range" p) [x, y] [] pos) (iR X.K T W true (evI G F (.rng2 a b))) := by
  refine pi_imp (pi_range2 hg hm (pa_cons (peA ha) (pa_cons (peA hb) pa_nil (star_cons hs2)) (star_cons hs)) (by rw [star_cons hs, star_cons hs2]; rfl) (star_cons hs2)) fun σ H R ⟨FH, s, Rr, q⟩ => ?_
  simp only [evI] at q
  refine ⟨FH, s, Rr, q.bind.imp fun FH1 s1 H1 v _ A1 q u r1 => ⟨FH1, s1, A1.rl, q.2.bind.imp fun FH2 s2 H2 w _ A2 q u2 r2 => ?_⟩⟩
  obtain ⟨_, q⟩ := q
  cases hx : rdv s2 v with
  | none => rw [hx] at q; exact q.elim
  | some d =>
    cases hy : rdv s2 w with
    | none => rw [hx, hy] at q; cases d <;> exact q.elim
    | some d2 =>
      rw [hx, hy] at q
      cases d with
      | int i =>
        cases d2 with
        | int j =>
          have e := (r1.mono A2.st.fle).rd A2.rl hx
          have e2 := r2.rd A2.rl hy
          simp only at q
          split at q
          · next hsm =>
            rw [Bool.and_eq_true] at hsm
            have h1 := of_decide_eq_true hsm.1
            have h2 := of_decide_eq_true hsm.2
            exact ⟨i, j, by rw [show u = V.int i from e, show u2 = V.int j from e2], ⟨h1.1, h1.2, h2.1, h2.2⟩, q FH2 H2 (.refl A2.rl) _ [] (wk_rng i j) (by simp) (fun z => nomatch z)⟩
          · exact q.elim
        | _ => exact q.elim
      | _ => exact q.elim
theorem ci_enu {elts : List Expr} {kk : Nat} {p tpos : Pos} (hg : Gl X "enumerate") (hm : X.mg "enumerate" = none) (ha : PE X x (tE X.K T W (evE G F a))) (hs : isStar x = false) : PI X (.Tuple elts kk tpos) (.Call (.Name "enumerate" p) [x] [] pos) (iR X.K T W false (evI G F (.enu a))) := by
  refine pi_imp (pi_enum hg hm (pa_cons (peS (peA ha)) pa_nil (star_cons hs)) (star_cons hs)) fun σ H R ⟨FH, s, Rr, q⟩ => ?_
  simp only [evI] at q
  refine ⟨FH, s, Rr, q.bind.imp fun FH1 s1 H1 v _ A1 q u r1 sh => ?_⟩
  obtain ⟨_, q⟩ := q
  cases hx : rdv s1 v with
  | none => rw [hx] at q; exact q.elim
  | some d =>
    rw [hx] at q
    cases d with
    | list ds =>
      obtain ⟨p, xs, o, rfl, ho, hp, dr, no⟩ := walk_list (vs := [v]) A1.rl r1 hx (by simp)
      exact ⟨p, xs, rfl, sql_of hp ho, q FH1 H1 (.refl A1.rl) _ _ (wk_enum ho dr) (one_q ⟨hp, no⟩) fun _ => by rw [show (enumD ds).length = ds.length by simp [enumD], dr.len]; exact sh p xs rfl (.inl (sql_of hp ho))⟩
    | _ => exact q.elim
theorem ci_zip {elts : List Expr} {kk : Nat} {p tpos : Pos} (hg : Gl X "zip") (hm : X.mg "zip" = none) (ha : PE X x (tE X.K T W (evE G F a))) (hb : PE X y (tE X.K T W (evE G F b))) (hs : isStar x = false) (hs2 : isStar y = false) : PI X (.Tuple elts kk tpos) (.Call (.Name "zip" p) [x, y] [] pos) (iR X.K T W false (evI G F (.zip a b))) := by
  refine pi_imp (RZ.pi_zipA hg hm (pa_cons (peA ha) (pa_cons (peS (peA hb)) pa_nil (star_cons hs2)) (star_cons hs)) (star_cons hs) (by rw [star_cons hs2]; rfl)) fun σ H R ⟨FH, s, Rr, q⟩ => ?_
  simp only [evI] at q
  refine ⟨FH, s, Rr, q.bind.imp fun FH1 s1 H1 v _ A1 q u r1 => ⟨FH1, s1, A1.rl, q.2.bind.imp fun FH2 s2 H2 w _ A2 q u2 r2 sh => ?_⟩⟩
  obtain ⟨_, q⟩ := q
  have r1' := r1.mono A2.st.fle
  cases hx : rdv s2 v with
  | none => rw [hx] at q; exact q.elim
  | some d =>
    cases hy : rdv s2 w with
    | none => rw [hx, hy] at q; cases d <;> exact q.elim
    | some d2 =>
      rw [hx, hy] at q
      cases d with
      | list ds =>
        cases d2 with
        | list es =>
          obtain ⟨p1, xs, o1, rfl, ho1, hp1, dr1, no1⟩ := walk_list (vs := [v, w]) A2.rl r1' hx (by simp)
          obtain ⟨p2, ys, o2, rfl, ho2, hp2, dr2, no2⟩ := walk_list (vs := [v, w]) A2.rl r2 hy (by simp)
          refine ⟨p1, p2, xs, ys, rfl, .inl ⟨sql_of hp1 ho1, sql_of hp2 ho2, q FH2 H2 (.refl A2.rl) _ [(p1, o1), (p2, o2)] (wk_zipL ho1 ho2 dr1 dr2) (fun q hq => ?_) fun _ => ?_⟩⟩
          · have e : q = (p1, o1) ∨ q = (p2, o2) := by simpa using hq
            rcases e with rfl | rfl
            · exact ⟨hp1, no1⟩
            · exact ⟨hp2, no2⟩
          · have h1 := sh p2 ys rfl (.inl (sql_of hp2 ho2))
            have h2 := dr2.len
            show (zipD ds es).length ≤ _
            rw [zipD_len]; omega
        | _ => exact q.elim
      | tuple ds =>
        cases d2 with
        | tuple es =>
          obtain ⟨p1, xs, rfl, hs1, dr1⟩ := r1'.rd A2.rl hx
          obtain ⟨p2, ys, rfl, hs2, dr2⟩ := r2.rd A2.rl hy
          refine ⟨p1, p2, xs, ys, rfl, .inr ⟨same_sqt A2.rl.sub hs1, same_sqt A2.rl.sub hs2, q FH2 H2 (.refl A2.rl) _ [] (wk_zipT hs1 hs2 dr1 dr2) (by simp) fun _ => ?_⟩⟩
          have h1 := sh p2 ys rfl (.inr (same_sqt A2.rl.sub hs2))
          have h2 := dr2.len
          show (zipD ds es).length ≤ _
          rw [zipD_len]; omega
        | _ => exact q.elim
      | _ => exact q.elim
end
end PV

namespace PV
open PySem PySem.Spec PyProof.Rows L2

/-! ### targets -/
section
variable {K : PySem.W.Frag} {FH FH' H H' : Hp} {e e' s : En} {σ σ' : Sto}
theorem set_get_cases {α : Type} {l : List α} {i j : Nat} {a b : α} (h : (l.set i a)[j]? = some b) : (i = j ∧ a = b ∧ i < l.length) ∨ (i ≠ j ∧ l[j]? = some b) := by
  by_cases hij : i = j
  · subst hij
    by_cases hl : i < l.length
    · rw [List.getElem?_set_self hl] at h
      exact .inl ⟨rfl, Option.some.inj h, hl⟩
    · rw [List.getElem?_eq_none (by simpa using hl)] at h; cases h
  · rw [List.getElem?_set_ne hij] at h
    exact .inr ⟨hij, h⟩
theorem Rl.putI (R : Rl K FH e σ H) {i : Nat} {d : PyData} {v : V} (r : DR K FH d v) : Rl K FH (e.set i (some (.imm d))) (σ.set i (some v)) H ∧ Stp FH e σ H FH (e.set i (some (.imm d))) (σ.set i (some v)) H := by
  refine ⟨⟨R.sub, by simp [R.len], fun j t ht => ?_, fun j k a t1 t2 hjk h1 hu h2 h3 hm => ?_⟩, ⟨fun _ _ h => h, fun _ _ h _ => h, fun _ h => h, fun _ h _ _ => h, fun a ⟨j, d', h1, h2⟩ => ?_, fun a ⟨j, t, h1, hm, h2⟩ => ?_, fun j d' h => ?_⟩⟩
  · rcases set_get_cases ht with ⟨rfl, e1, hl⟩ | ⟨hne, h⟩
    · cases e1
      refine ⟨v, ?_, r⟩
      rw [List.getElem?_set_self (by rw [← R.len]; exact hl)]
    · obtain ⟨u, e1, q⟩ := R.slot j t h
      exact ⟨u, by rw [List.getElem?_set_ne hne]; exact e1, q⟩
  · rcases set_get_cases h1 with ⟨rfl, e1, _⟩ | ⟨n1, h1⟩
    · cases e1; cases hu
    · rcases set_get_cases h3 with ⟨rfl, e1, _⟩ | ⟨n2, h3⟩
      · cases e1; cases hm
      · rw [List.getElem?_set_ne n1] at h2
        rw [List.getElem?_set_ne n2]
        exact R.sep j k a t1 t2 hjk h1 hu h2 h3 hm
  · rcases set_get_cases h1 with ⟨rfl, e1, _⟩ | ⟨n1, h1⟩
    · cases e1
    · rw [List.getElem?_set_ne n1] at h2
      exact .inl ⟨j, d', h1, h2⟩
  · rcases set_get_cases h1 with ⟨rfl, e1, _⟩ | ⟨n1, h1⟩
    · cases e1; cases hm
    · rw [List.getElem?_set_ne n1] at h2
      exact .inl ⟨j, t, h1, hm, h2⟩
  · rcases set_get_cases h with ⟨rfl, e1, _⟩ | ⟨n1, h1⟩
    · cases e1
    · exact ⟨h1, by rw [List.getElem?_set_ne n1]⟩
end
mutual
def tgVs : Tg → List Nat
  | .v i => [i]
  | .t ts => tgsVs ts
def tgsVs : Tgs → List Nat
  | .nil => []
  | .cons t r => tgVs t ++ tgsVs r
end
def lenTs : Tgs → Nat
  | .nil => 0
  | .cons _ r => lenTs r + 1
/-- only the slots of vs differ -/
def Only (vs : List Nat) (σ σ' : Sto) : Prop := σ'.length = σ.length ∧ ∀ j, j ∉ vs → σ'[j]? = σ[j]?
def gR (K : PySem.W.Frag) (vs : List Nat) (bd : PyData → En → Option En) : TG := fun v σ H Q => ∃ FH s d s', Rl K FH s σ H ∧ DR K FH d v ∧ bd d s = some s' ∧ ∀ σ', Rl K FH s' σ' H → Stp FH s σ H FH s' σ' H → Only vs σ σ' → Q σ' H
def gsR (K : PySem.W.Frag) (vs : List Nat) (bd : List PyData → En → Option En) : TGs := fun us σ H Q => ∃ FH s ds s', Rl K FH s σ H ∧ DRs K FH ds us ∧ bd ds s = some s' ∧ ∀ σ', Rl K FH s' σ' H → Stp FH s σ H FH s' σ' H → Only vs σ σ' → Q σ' H
theorem pg_imp {X : Cx} {e : Expr} {t t' : TG} (h : PG X e t) (i : ∀ v σ H Q, t' v σ H Q → t v σ H Q) : PG X e t' := ⟨fun pins s σ H v u Q I r q => h.run pins s σ H v u Q I r (i v σ H Q q)⟩
theorem pgs_imp {X : Cx} {e : List Expr} {t t' : TGs} (h : PGs X e t) (i : ∀ v σ H Q, t' v σ H Q → t v σ H Q) : PGs X e t' := ⟨fun pins s σ H v u Q I r q => h.run pins s σ H v u Q I r (i v σ H Q q)⟩
/-- may be stored: a local, in a def's own frame a cell too -/
def locB (dfn : Bool) (sc : Scope) (x : Str) : Bool := match sc.names.lookup x with
  | some .local => true
  | some .cell => dfn
  | _ => false
theorem locB_ok {X : Cx} {dfn : Bool} {sc : Scope} {x : Str} (h : locB dfn sc x = true) (hs : X.env.scope = sc) (hf : dfn = true → ∀ x, X.fn x = true) : L2.Loc X.env.scope x ∧ (X.fn x = true ∨ X.env.scope.names.lookup x = some .local) := by
  unfold locB at h
  unfold L2.Loc
  rw [hs]
  split at h
  · next e => exact ⟨.inl e, .inr e⟩
  · next e => exact ⟨.inr e, .inl (hf h x)⟩
  · cases h
mutual
def chkG (dfn : Bool) (N : List Str) (sc : Scope) : Tg → Expr → Bool
  | .v i, x => match x with
    | .Name n _ => decide (N[i]? = some n) && locB dfn sc n
    | _ => false
  | .t ts, x => match x with
    | .Tuple es _ _ => chkGs dfn N sc ts es
    | _ => false
def chkGs (dfn : Bool) (N : List Str) (sc : Scope) : Tgs → List Expr → Bool
  | .nil, es => es.isEmpty
  | .cons t r, es => match es with
    | [] => false
    | e :: es => chkG dfn N sc t e && !isStar e && chkGs dfn N sc r es
end
theorem each_star {e : Expr} {es : List Expr} {env : Env} (h : isStar e = false) : assignEach (e :: es) env = (false, assign e env) :: assignEach es env := by
  cases e <;> first | rfl | cases h
section
variable {X : Cx}
theorem each_of {dfn : Bool} {N : List Str} {sc : Scope} : ∀ {ts : Tgs} {es : List Expr} (env : Env), chkGs dfn N sc ts es = true → (assignEach es env).length = lenTs ts ∧ (assignEach es env).findIdx? (·.1) = none
  | .nil, es, env, h => by
    have e : es = [] := by simpa [chkGs] using h
    subst e; exact ⟨rfl, rfl⟩
  | .cons t r, [], env, h => by simp [chkGs] at h
  | .cons t r, e :: es, env, h => by
    simp only [chkGs, Bool.and_eq_true, Bool.not_eq_true'] at h
    obtain ⟨h1, h2⟩ := each_of env h.2
    rw [each_star h.1.2]
    refine ⟨by rw [List.length_cons, h1]; rfl, ?_⟩
    rw [List.findIdx?_cons]
    simp [h2]
theorem bindTs_len : ∀ {ts : Tgs} {ds : List PyData} {s s' : En}, bindTs ts ds s = some s' → ds.length = lenTs ts
  | .nil, [], s, s', h => rfl
  | .nil, _ :: _, s, s', h => by simp [bindTs] at h
  | .cons _ _, [], s, s', h => by simp [bindTs] at h
  | .cons t r, d :: ds, s, s', h => by
    simp only [bindTs] at h
    split at h
    · rw [List.length_cons, bindTs_len h]; rfl
    · cases h
mutual
theorem chkG_ok {dfn : Bool} {N : List Str} {sc : Scope} (hN : X.N = N) (hd : N.Nodup) (hc : X.calm = true) (hs : X.env.scope = sc) (hf : dfn = true → ∀ x, X.fn x = true) : ∀ (t : Tg) (e : Expr), chkG dfn N sc t e = true → PG X e (gR X.K (tgVs t) (bindT t))
  | .v i, e, h => by
    cases e with
    | Name n p =>
      simp only [chkG, Bool.and_eq_true, decide_eq_true_eq] at h
      obtain ⟨l1, l2⟩ := locB_ok h.2 hs hf
      refine pg_imp (pg_name (by rw [hN]; exact hd) (by rw [hN]; exact h.1) l1 l2) fun v σ H Q ⟨FH, s, d, s', R, r, hb, q⟩ => ?_
      simp only [bindT] at hb
      cases hb
      obtain ⟨R2, S2⟩ := R.putI (i := i) r
      refine q _ R2 S2 ⟨by simp, fun j hj => ?_⟩
      rw [List.getElem?_set_ne (fun e => hj (by simp [tgVs, e]))]
    | _ => simp [chkG] at h
  | .t ts, e, h => by
    cases e with
    | Tuple es k p =>
      simp only [chkG] at h
      obtain ⟨l1, l2⟩ := each_of X.env h
      have gs := chkGs_ok hN hd hc hs hf ts es h
      have g1 : PG X (.Tuple es k p) _ := pg_tup hc gs l1 l2
      have g2 : PG X (.Tuple es k p) _ := pg_lst hc gs l1 l2
      refine ⟨fun pins s0 σ H v u Q I r ⟨FH, s, d, s', R, dr, hb, q⟩ => ?_⟩
      cases d with
      | tuple ds =>
        simp only [bindT] at hb
        unfold DR at dr
        obtain ⟨a, xs, rfl, hq, t⟩ := dr
        exact g1.run pins s0 σ H _ u Q I r ⟨a, xs, rfl, same_sqt R.sub hq, by rw [← t.len]; exact bindTs_len hb, FH, s, ds, s', R, t, hb, q⟩
      | list ds =>
        simp only [bindT] at hb
        unfold DR at dr
        obtain ⟨a, xs, rfl, hq, t⟩ := dr
        exact g2.run pins s0 σ H _ u Q I r ⟨a, xs, rfl, .inl (same_rd R.sub hq), by rw [← t.len]; exact bindTs_len hb, FH, s, ds, s', R, t, hb, q⟩
      | _ => simp [bindT] at hb
    | _ => simp [chkG] at h
theorem chkGs_ok {dfn : Bool} {N : List Str} {sc : Scope} (hN : X.N = N) (hd : N.Nodup) (hc : X.calm = true) (hs : X.env.scope = sc) (hf : dfn = true → ∀ x, X.fn x = true) : ∀ (t : Tgs) (es : List Expr), chkGs dfn N sc t es = true → PGs X es (gsR X.K (tgsVs t) (bindTs t))
  | .nil, es, h => by
    have e : es = [] := by simpa [chkGs] using h
    subst e
    refine pgs_imp pgs_nil fun v σ H Q ⟨FH, s, ds, s', R, r, hb, q⟩ => ?_
    cases ds with
    | cons _ _ => simp [bindTs] at hb
    | nil =>
      simp only [bindTs] at hb; cases hb
      exact ⟨by simpa [DRs] using r, q σ R (.refl ..) ⟨rfl, fun _ _ => rfl⟩⟩
  | .cons t ts, [], h => by simp [chkGs] at h
  | .cons t ts, e :: es, h => by
    simp only [chkGs, Bool.and_eq_true, Bool.not_eq_true'] at h
    refine pgs_imp (pgs_cons (chkG_ok hN hd hc hs hf t e h.1.1) (chkGs_ok hN hd hc hs hf ts es h.2) (by rw [each_star h.1.2]; rfl)) fun v σ H Q ⟨FH, s, ds, s', R, r, hb, q⟩ => ?_
    cases ds with
    | nil => simp [bindTs] at hb
    | cons d ds =>
      unfold DRs at r
      obtain ⟨u, us, rfl, r1, r2⟩ := r
      simp only [bindTs] at hb
      split at hb
      · next s1 h1 =>
        refine ⟨u, us, rfl, FH, s, d, s1, R, r1, h1, fun σ1 R1 S1 O1 => ⟨FH, s1, ds, s', R1, r2, hb, fun σ2 R2 S2 O2 => q σ2 R2 (S1.trans S2) ⟨O2.1.trans O1.1, fun j hj => ?_⟩⟩⟩
        simp only [tgsVs, List.mem_append, not_or] at hj
        rw [O2.2 j hj.2, O1.2 j hj.1]
      · cases hb
end
end
end PV

namespace PV
open PySem PySem.Spec PyProof.Rows L2

theorem wipe_ne {σ : Sto} {i : Nat} : ∀ {vs : List Nat}, i ∉ vs → (wipe σ vs)[i]? = σ[i]?
  | [], _ => rfl
  | v :: vs, h => by
    rw [List.mem_cons, not_or] at h
    unfold wipe
    rw [List.getElem?_set_ne (Ne.symm h.1), wipe_ne h.2]
theorem wipe_eq {σ σ' : Sto} : ∀ {vs : List Nat}, (∀ j, j ∉ vs → σ'[j]? = σ[j]?) → σ'.length = σ.length → wipe σ' vs = wipe σ vs := fun {vs} h hl => by
  refine List.ext_getElem? fun i => ?_
  by_cases hi : i ∈ vs
  · have none_at : ∀ (τ : Sto) (ws : List Nat), i ∈ ws → (wipe τ ws)[i]? = if i < τ.length then some none else none := by
      intro τ ws
      induction ws with
      | nil => intro h; simp at h
      | cons w ws ih =>
        intro hm
        unfold wipe
        by_cases hw : w = i
        · subst hw
          by_cases hl : w < τ.length
          · rw [List.getElem?_set_self (by rw [wipe_length]; exact hl), if_pos hl]
          · rw [List.getElem?_eq_none (by simp [wipe_length]; omega), if_neg hl]
        · rw [List.getElem?_set_ne hw]
          rcases List.mem_cons.mp hm with z | z
          · exact absurd z.symm hw
          · exact ih z
    rw [none_at _ _ hi, none_at _ _ hi, hl]
  · rw [wipe_ne hi, wipe_ne hi, h i hi]
theorem wipeE_some {s : En} {own : List Nat} {i : Nat} {t : Slot} (h : (wipeE s own)[i]? = some (some t)) : s[i]? = some (some t) ∧ i ∉ own := by
  obtain ⟨x, h1, h2⟩ := mapI_some h
  by_cases hc : own.contains i = true
  · rw [if_pos hc] at h2; cases h2
  · rw [if_neg hc] at h2
    exact ⟨by rw [h1, h2], by simpa using hc⟩
theorem wipeE_of {s : En} {own : List Nat} {i : Nat} {t : Slot} (h : s[i]? = some (some t)) (hi : i ∉ own) : (wipeE s own)[i]? = some (some t) := by
  unfold wipeE
  rw [mapI_get, Nat.zero_add, h]
  simp [hi]
theorem restE_some {s0 s : En} {own : List Nat} {i : Nat} {t : Slot} (h : (restE s0 s own)[i]? = some (some t)) : (i ∈ own ∧ s0[i]? = some (some t)) ∨ (i ∉ own ∧ s[i]? = some (some t)) := by
  obtain ⟨x, h1, h2⟩ := mapI_some h
  by_cases hc : own.contains i = true
  · rw [if_pos hc] at h2
    refine .inl ⟨by simpa using hc, ?_⟩
    rw [List.getD_eq_getElem?_getD] at h2
    cases q : s0[i]? with
    | none => rw [q] at h2; cases h2
    | some y => rw [q] at h2; rw [show y = some t from h2]
  · rw [if_neg hc] at h2
    exact .inr ⟨by simpa using hc, by rw [h1, h2]⟩
theorem quiet_imm {s : En} {own : List Nat} {i : Nat} {t : Slot} (h : quietE s own = true) (hi : i ∈ own) (ht : s[i]? = some (some t)) : ∃ d, t = .imm d := by
  unfold quietE at h
  have := List.all_eq_true.mp h i hi
  rw [ht] at this
  cases t with
  | imm d => exact ⟨d, rfl⟩
  | _ => cases this
section
variable {K : PySem.W.Frag} {FH FH' H H' : Hp} {e e' s : En} {σ σ' : Sto} {own : List Nat}
theorem Rl.wiped (R : Rl K FH e σ H) (own : List Nat) : Rl K FH (wipeE e own) (L2.wipe σ own) H :=
  R.sim ((mapI_len _ _ _).trans (R.len.trans (wipe_length _ _).symm)) fun i t ht => by
    obtain ⟨h1, h2⟩ := wipeE_some ht
    exact ⟨t, h1, rfl, rfl, rfl, wipe_ne h2⟩
theorem ownAt_wipe {a : Addr} (h : ownAt (wipeE e own) (wipe σ own) a) : ownAt e σ a := by
  obtain ⟨i, d, h1, h2⟩ := h
  obtain ⟨h3, h4⟩ := wipeE_some h1
  exact ⟨i, d, h3, by rw [← wipe_ne h4]; exact h2⟩
theorem mineAt_wipe {a : Addr} (h : mineAt (wipeE e own) (wipe σ own) a) : mineAt e σ a := by
  obtain ⟨i, d, h1, hm, h2⟩ := h
  obtain ⟨h3, h4⟩ := wipeE_some h1
  exact ⟨i, d, h3, hm, by rw [← wipe_ne h4]; exact h2⟩
/-- an object that is nobody's slot is changed -/
theorem Rl.poke (R : Rl K FH e σ H) {p : Addr} {o : HO} (n : FH p = none) (ns : ¬ mineAt e σ p) : Rl K FH e σ (upd H p o) := by
  refine ⟨fun b u hb => ?_, R.len, fun j sl hj => ?_, R.sep⟩
  · have hne : b ≠ p := fun z => by rw [z, n] at hb; cases hb
    rw [upd_ne hne]; exact R.sub _ _ hb
  · obtain ⟨v, e1, r⟩ := R.slot j sl hj
    refine ⟨v, e1, ?_⟩
    cases hm : sl.mine with
    | false =>
      cases sl with
      | imm d' => exact r
      | own d' => cases hm
      | lok d' => cases hm
      | bor d' => cases hm
    | true =>
      obtain ⟨b, ev, nb, tb⟩ := r.mineD hm
      subst ev
      have hne : b ≠ p := fun z => ns ⟨j, sl, hj, hm, by rw [e1, z]⟩
      exact SlR.ofMine hm nb (tb.mono (fun _ _ h => h) fun _ q => by rw [upd_ne hne]; exact q)
/-- .. an object that the step's beginning did not know -/
theorem Stp.poke (S : Stp FH e σ H FH' e' σ' H') {p : Addr} {o : HO} (hp : H p = none) : Stp FH e σ H FH' e' σ' (upd H' p o) := by
  refine ⟨S.fle, fun b u hb no => ?_, fun b hb => ?_, S.fnew, S.own, S.mn, S.lk⟩
  · have hne : b ≠ p := fun z => by rw [z, hp] at hb; cases hb
    rw [upd_ne hne]; exact S.keep b u hb no
  · by_cases hbp : b = p
    · rw [hbp]; exact hp
    · rw [upd_ne hbp] at hb; exact S.aloc b hb
theorem Stp.wipeEnd (S : Stp FH (wipeE e own) (wipe σ own) H FH' e' σ' H') (hσ : L2.wipe σ' own = L2.wipe σ own) : Stp FH (wipeE e own) (wipe σ own) H FH' (wipeE e' own) (wipe σ own) H' := by
  refine ⟨S.fle, S.keep, S.aloc, S.fnew, fun a h => S.own a (by rw [← hσ] at h; exact ownAt_wipe h), fun a h => S.mn a (by rw [← hσ] at h; exact mineAt_wipe h), fun i d h => ?_⟩
  obtain ⟨h1, h2⟩ := wipeE_some h
  exact ⟨(S.lk i d h1).1, rfl⟩
theorem Rl.rest (R0 : Rl K FH s σ H) (R : Rl K FH' (wipeE e own) (wipe σ own) H') (fle : Same FH FH') (hq : quietE s own = true) : Rl K FH' (restE s e own) σ H' := by
  have nm : ∀ {i : Nat} {t : Slot}, (restE s e own)[i]? = some (some t) → t.mine = true → i ∉ own ∧ e[i]? = some (some t) := fun {i t} h hm => by
    rcases restE_some h with ⟨h1, h2⟩ | h
    · obtain ⟨d, rfl⟩ := quiet_imm hq h1 h2
      cases hm
    · exact h
  refine ⟨R.sub, ?_, fun i t h => ?_, fun i j a d t hij hi hu hσ hj hm => ?_⟩
  · have h1 := R.len
    unfold wipeE at h1
    rw [mapI_len, wipe_length] at h1
    unfold restE
    rw [mapI_len]; exact h1
  · rcases restE_some h with ⟨h1, h2⟩ | ⟨h1, h2⟩
    · obtain ⟨d, rfl⟩ := quiet_imm hq h1 h2
      obtain ⟨v, e1, r⟩ := R0.slot i _ h2
      exact ⟨v, e1, DR.mono fle _ _ r⟩
    · obtain ⟨v, e1, r⟩ := R.slot i t (wipeE_of h2 h1)
      exact ⟨v, by rw [← wipe_ne h1]; exact e1, r⟩
  · obtain ⟨h1, h2⟩ := nm hi (Slot.mine_of_uniq hu)
    obtain ⟨h3, h4⟩ := nm hj hm
    rw [← wipe_ne h3]
    exact R.sep i j a d t hij (wipeE_of h2 h1) hu (by rw [wipe_ne h1]; exact hσ) (wipeE_of h4 h3) hm
theorem Stp.rest (S : Stp FH (wipeE s own) (wipe σ own) H FH' (wipeE e own) (wipe σ own) H') {s1 : En} (hq : quietE s1 own = true) : Stp FH s σ H FH' (restE s1 e own) σ H' := by
  have nm : ∀ {i : Nat} {t : Slot}, (restE s1 e own)[i]? = some (some t) → t.mine = true → i ∉ own ∧ e[i]? = some (some t) := fun {i t} h hm => by
    rcases restE_some h with ⟨h1, h2⟩ | h
    · obtain ⟨d, rfl⟩ := quiet_imm hq h1 h2
      cases hm
    · exact h
  refine ⟨S.fle, fun a o h no => S.keep a o h fun z => no (ownAt_wipe z), S.aloc, fun a h1 h2 no => S.fnew a h1 h2 fun z => no (ownAt_wipe z), fun a ⟨i, d, h1, h2⟩ => ?_, fun a ⟨i, t, h1, hm, h2⟩ => ?_, fun i d h => ?_⟩
  · obtain ⟨h3, h4⟩ := nm h1 rfl
    rcases S.own a ⟨i, d, wipeE_of h4 h3, by rw [wipe_ne h3]; exact h2⟩ with z | z
    · exact .inl (ownAt_wipe z)
    · exact .inr z
  · obtain ⟨h3, h4⟩ := nm h1 hm
    rcases S.mn a ⟨i, t, wipeE_of h4 h3, hm, by rw [wipe_ne h3]; exact h2⟩ with z | z
    · exact .inl (mineAt_wipe z)
    · exact .inr z
  · obtain ⟨h3, h4⟩ := nm h rfl
    exact ⟨(wipeE_some (S.lk i d (wipeE_of h4 h3)).1).1, rfl⟩
theorem quiet_locks {L : List Nat} (h : quietE s own = true) : quietE (locks s L) own = true := by
  unfold quietE at h ⊢
  rw [List.all_eq_true] at h ⊢
  intro i hi
  have := h i hi
  unfold locks
  rw [mapI_get, Nat.zero_add]
  cases q : s[i]? with
  | none => rfl
  | some x =>
    rw [q] at this
    cases x with
    | none => rfl
    | some t =>
      cases t with
      | imm d => rfl
      | _ => cases this
end
def noW : WX := fun _ _ _ _ => False
section
variable {X : Cx} {T : XT} {W : WX} {x tg : Expr} {pos : Pos} {G : Cf} {F : CF} {a : E}
theorem lcLoop_cons {bd : PyData → En → Option En} {c : En → Out Bool} {elt : En → Out PyData} {own : List Nat} {x : PyData} {xs acc ds : List PyData} {s s' : En} (h : lcLoop bd c elt own (x :: xs) acc s = .ok ds s') :
    ∃ s1 b s2, bd x (wipeE s own) = some s1 ∧ c s1 = .ok b s2 ∧ if b = true then ∃ d s3, elt s2 = .ok d s3 ∧ lcLoop bd c elt own xs (acc ++ [d]) s3 = .ok ds s' else lcLoop bd c elt own xs acc s2 = .ok ds s' := by
  simp only [lcLoop] at h
  split at h
  · next s1 h1 =>
    cases h2 : c s1 with
    | stuck => rw [h2] at h; cases h
    | exc _ _ => rw [h2] at h; cases h
    | ok b s2 =>
      rw [h2, Out.bind_ok] at h
      refine ⟨s1, b, s2, h1, h2, ?_⟩
      cases b with
      | false => simpa using h
      | true =>
        simp only [if_true] at h ⊢
        cases h3 : elt s2 with
        | stuck => rw [h3] at h; cases h
        | exc _ _ => rw [h3] at h; cases h
        | ok d s3 =>
          rw [h3, Out.bind_ok] at h
          exact ⟨d, s3, rfl, h⟩
  · cases h
def tQs (K : PySem.W.Frag) (T : XT) (W : WX) (ev : En → Out Bool) : TT := tQ K T W ev
theorem tLc_of {it : It} {t : Tg} {c : Oe} {own : List Nat} (hv : (tgVs t).all (fun i => own.contains i) = true) {σ : Sto} {H : Hp} {Q : VK} (h : tE X.K T W (evE G F (.lc a t it c own)) σ H Q) :
    tLc (iR X.K T W it.isRng (evI G F it)) (gR X.K (tgVs t) (bindT t)) (tQ X.K T noW (evT G F c)) (tF X.K T noW (frz (evE G F a))) own σ H Q := by
  obtain ⟨FH, s, R, q⟩ := h
  simp only [evE] at q
  refine ⟨FH, s, R, q.bind.imp fun FH1 s1 H1 p _ A1 q J as wk st hlen D hD => ?_⟩
  obtain ⟨_, q⟩ := q
  split at q
  · next hql =>
    rw [Bool.and_eq_true] at hql
    obtain ⟨hq, hlo⟩ := hql
    have hsz : p.1.length ≤ sizeLine := by
      unfold lenOk at hlo
      cases hr : it.isRng with
      | true => rw [hr] at hlo; simpa using hlo
      | false => exact hlen hr
    generalize hL : lokI s1 p.2 = L at q st
    generalize hsL : locks s1 L = sL at q st
    generalize ho : lcLoop (bindT t) (evT G F c) (frz (evE G F a)) own p.1 [] sL = o at q
    cases o with
    | stuck => exact q.elim
    | exc _ _ => exact q.elim
    | ok dsF sE =>
      simp only [noX, Out.bind_ok] at q
      have RL : Rl X.K FH1 sL σ H1 := by rw [← hsL]; exact A1.rl.lock L
      have RW := RL.wiped own
      have nF1 : FH1 D = none := none_sub A1.rl.sub hD
      have nm1 : ¬ mineAt (wipeE sL own) (wipe σ own) D := fun ⟨i, t, h1, hm, h2⟩ => no_slot RW hD i t h1 hm h2
      -- the loop's invariant
      let Lp : Nat → Hp → Prop := fun i H' => ∃ FHi ei acc vacc, Rl X.K FHi (wipeE ei own) (wipe σ own) H' ∧ Stp FH1 (wipeE sL own) (wipe σ own) H1 FHi (wipeE ei own) (wipe σ own) H' ∧ H' D = some (.lst vacc) ∧ FHi D = none ∧ ¬ mineAt (wipeE ei own) (wipe σ own) D ∧
        DRs X.K FHi acc vacc ∧ acc.length ≤ i ∧ lcLoop (bindT t) (evT G F c) (frz (evE G F a)) own (p.1.drop i) acc ei = .ok dsF sE
      refine ⟨fun i m H' => m = p.1.length - i ∧ i ≤ p.1.length ∧ Lp i H', ⟨p.1.length, rfl, Nat.zero_le _, FH1, sL, [], [], RW.poke nF1 nm1, (Stp.refl ..).poke hD, upd_same, nF1, nm1, .nil, Nat.zero_le _, by rw [List.drop_zero]; exact ho⟩, ?_⟩
      rintro i m H2 ⟨rfl, hi, FHi, ei, acc, vacc, Ri, Si, hDi, nFi, nmi, dri, hacc, hlp⟩
      have stand : ∀ q ∈ as, H2 q.1 = some q.2 := fun q hq => Si.keep _ _ (st q hq).1 fun z => (st q hq).2 (ownAt_wipe z)
      have subi : Same FH1 H2 := fun b u h => Ri.sub _ _ (Si.fle _ _ h)
      by_cases hlt : i < p.1.length
      · refine .inr ⟨wk.go i H2 stand subi hlt, Lp (i + 1), fun H' p' => ⟨p.1.length - (i + 1), by omega, rfl, hlt, p'⟩, fun v H3 y => ?_⟩
        obtain ⟨d, hd⟩ : ∃ d, p.1[i]? = some d := ⟨_, List.getElem?_eq_getElem hlt⟩
        have ro := wk.yld i H2 v H3 d stand subi hd y
        have ro' : ResOk X.K FHi H2 (.imm d) v H3 := by
          rcases ro with ⟨h1, h2⟩ | ⟨tp, cs, xs, h1, h2, h3, h4, h5⟩
          · exact .inl ⟨h1, DR.mono Si.fle _ _ h2⟩
          · exact .inr ⟨tp, cs, xs, h1, h2, h3, h4, DRs.mono Si.fle _ _ h5⟩
        obtain ⟨FH3, A3, vr⟩ := res_after Ri ro'
        rw [List.drop_eq_getElem_cons hlt] at hlp
        have hde : p.1[i] = d := by rw [List.getElem?_eq_getElem hlt] at hd; exact Option.some.inj hd
        rw [hde] at hlp
        obtain ⟨e1, b, e2, hb, hc, hrest⟩ := lcLoop_cons hlp
        refine ⟨FH3, wipeE ei own, d, e1, A3.rl, vr, hb, fun σ2 R4 S4 O4 => ?_⟩
        have hw : wipe σ2 own = wipe σ own := by
          have hw1 : wipe σ2 own = wipe (wipe σ own) own := by
            refine wipe_eq (fun j hj => O4.2 j fun hm => hj ?_) O4.1
            have := List.all_eq_true.mp hv j hm
            simpa using this
          rw [hw1]
          exact wipe_eq (fun j hj => wipe_ne hj) (wipe_length _ _)
        -- the state behind a step
        have fin : ∀ {FH5 H5 : Hp} {e5 : En}, After X.K FH3 e1 σ2 H3 FH5 e5 H5 → Rl X.K FH5 (wipeE e5 own) (wipe σ own) H5 ∧ Stp FHi (wipeE ei own) (wipe σ own) H2 FH5 (wipeE e5 own) (wipe σ own) H5 ∧ H5 D = some (.lst vacc) ∧ FH5 D = none ∧ ¬ mineAt (wipeE e5 own) (wipe σ own) D := fun {FH5 H5 e5} A5 => by
          have S5 : Stp FHi (wipeE ei own) (wipe σ own) H2 FH5 e5 σ2 H5 := (A3.st.trans S4).trans A5.st
          have S6 := S5.wipeEnd hw
          have nown : ¬ ownAt (wipeE ei own) (wipe σ own) D := fun ⟨j, d, h1, h2⟩ => nmi ⟨j, _, h1, rfl, h2⟩
          refine ⟨by rw [← hw]; exact A5.rl.wiped own, S6, S6.keep D _ hDi nown, S6.fnew D nFi (by rw [hDi]; simp) nown, fun z => ?_⟩
          rcases S6.mn D z with z | z
          · exact nmi z
          · rw [hDi] at z; cases z
        refine ⟨hw, FH3, e1, R4, ?_⟩
        rw [hc]
        intro FH5 H5 A5
        cases b with
        | false =>
          simp only [Bool.false_eq_true, if_false] at hrest ⊢
          obtain ⟨g1, g2, g3, g4, g5⟩ := fin A5
          exact ⟨FH5, e2, acc, vacc, g1, Si.trans g2, g3, g4, g5, DRs.mono g2.fle _ _ dri, by omega, hrest⟩
        | true =>
          simp only [if_true] at hrest ⊢
          obtain ⟨dd, e3, he, hrest⟩ := hrest
          refine ⟨FH5, e2, A5.rl, ?_⟩
          rw [he]
          intro FH6 H6 A6 w rw'
          obtain ⟨g1, g2, g3, g4, g5⟩ := fin (A5.trans A6)
          have la := dri.len
          refine ⟨vacc, g3, by omega, FH6, e3, acc ++ [dd], vacc ++ [w], g1.poke g4 g5, (Si.trans g2).poke hD, upd_same, g4, g5, (DRs.mono g2.fle _ _ dri).append (.one rw'), by rw [List.length_append]; simp; omega, hrest⟩
      · have e : i = p.1.length := by omega
        subst e
        refine .inl ⟨wk.stop H2 stand subi, ?_⟩
        rw [List.drop_length] at hlp
        simp only [lcLoop] at hlp
        injection hlp with hl1 hl2
        subst hl1 hl2
        have hq' : quietE sL own = true := by rw [← hsL]; exact quiet_locks hq
        have RE : Rl X.K FHi (restE s1 ei own) σ H2 := A1.rl.rest Ri Si.fle hq
        have SE : Stp FH1 (locks s1 L) σ H1 FHi (restE s1 ei own) σ H2 := by rw [hsL]; exact Si.rest hq
        have SL : Stp FH1 s1 σ H1 FHi (unlocks (restE s1 ei own) L) σ H2 := SE.loop fun j hj => lokI_own (vs := p.2) j (by rw [hL]; exact hj)
        refine q FHi H2 ⟨RE.unlock L, SL⟩ (.ref D) ⟨D, rfl, nFi, A1.st.aloc D hD, ⟨vacc, hDi, dri⟩, fun j t h1 hm h2 => ?_⟩
        have z := mineAt_unlock (L := L) ⟨j, t, h1, hm, h2⟩
        obtain ⟨k, t, k1, k2, k3⟩ := z
        rcases restE_some k1 with ⟨m1, m2⟩ | ⟨m1, m2⟩
        · obtain ⟨d, rfl⟩ := quiet_imm hq m1 m2
          cases k2
        · exact nmi ⟨k, t, wipeE_of m2 m1, k2, by rw [wipe_ne m1]; exact k3⟩
  · exact q.elim
end
end PV

namespace PV
open PySem PySem.Spec PyProof.Rows L2

/-! ### the checker of expressions -/
def plainT : Expr → Bool
  | .UnaryOp .Not _ _ => false
  | .BoolOp .. => false
  | .IfExp .. => false
  | .Compare .. => false
  | _ => true
def isSet : Expr → Bool
  | .Set .. => true
  | _ => false
def isTuple : Expr → Bool
  | .Tuple .. => true
  | _ => false
/-- a name, called -/
def callee : Expr → Option Str
  | .Name f _ => some f
  | _ => none
/-- the method of a call -/
def method : Expr → Option (Expr × Str × Pos)
  | .Attribute o m p => some (o, m, p)
  | _ => none
def tyArg (sc : Scope) (Ts : List Nat) : Expr → Bool
  | .Name y _ => match Ts with
    | [n] => decide (n < 6) && decide (y = (tyN n : Str)) && glB sc (tyN n : Str)
    | _ => false
  | .Tuple ys _ _ => tyNames Ts ys && decide (Ts.length ≤ 6) && Ts.all fun n => glB sc (tyN n : Str)
  | _ => false
mutual
def chkE (D : Ck) (N : List Str) : Scope → E → Expr → Bool
  | sc, .var i, x => match x with
    | .Name n _ => decide (N[i]? = some n) && visB sc n && noDbg n
    | _ => false
  | sc, .cn c, x => cnB c x
  | sc, .glo k, x => match x with
    | .Name n _ => decide (D.gn k = some n) && glB sc n
    | _ => false
  | sc, .bin op a b, x => match x with
    | .BinOp l o r _ => decide (boP op = o) && chkE D N sc a l && chkE D N sc b r
    | _ => false
  | sc, .neg a, x => match x with
    | .UnaryOp o l _ => decide (o = .USub) && chkE D N sc a l
    | _ => false
  | sc, .nt a, x => match x with
    | .UnaryOp o l _ => decide (o = .Not) && chkE D N sc a l
    | _ => false
  | sc, .and a b, x => match x with
    | .BoolOp o vs p => match vs with
      | [l, r] => decide (o = .And) && chkE D N sc a l && chkE D N sc b r
      | l :: r :: r2 :: rs => decide (o = .And) && chkE D N sc a l && chkE D N sc b (.BoolOp .And (r :: r2 :: rs) p)
      | _ => false
    | _ => false
  | sc, .or a b, x => match x with
    | .BoolOp o vs p => match vs with
      | [l, r] => decide (o = .Or) && chkE D N sc a l && chkE D N sc b r
      | l :: r :: r2 :: rs => decide (o = .Or) && chkE D N sc a l && chkE D N sc b (.BoolOp .Or (r :: r2 :: rs) p)
      | _ => false
    | _ => false
  | sc, .cmp op a b, x => match x with
    | .Compare l os rs _ => match os, rs with
      | [o], [r] => decide (coP op = o) && !behindInMarks (coP op) r && chkE D N sc a l && chkE D N sc b r
      | _, _ => false
    | _ => false
  | sc, .cmp2 op op2 a b c, x => match x with
    | .Compare l os rs _ => match os, rs with
      | [o, o2], [r, r2] => decide (coP op = o) && decide (coP op2 = o2) && !lastMarks [coP op, coP op2] [r, r2] && chkE D N sc a l && chkE D N sc b r && chkE D N sc c r2
      | _, _ => false
    | _ => false
  | sc, .ife c a b, x => match x with
    | .IfExp z l r _ => chkE D N sc c z && chkE D N sc a l && chkE D N sc b r
    | _ => false
  | sc, .callk k es ks, x => match x with
    | .Call f xs kws _ => match callee f, D.cs k with
      | some f, some (g, n, kn) => decide (g = f) && glB sc f && (chkEs D N sc es xs && chkKs D N sc ks kws && decide (kws.map kwName = kn.map some) && decide (lenEs es = n) && decide (lenEs ks = kn.length))
      | _, _ => false
    | _ => false
  | sc, .bi b es, x => match x with
    | .Call f xs kws _ => match callee f with
      | some f => decide (f = biN b) && biOk b && glB sc f && !xs.isEmpty && kws.isEmpty && chkEs D N sc es xs
      | _ => false
    | _ => false
  | sc, .isi a Ts, x => match x with
    | .Call f xs kws _ => match callee f, xs with
      | some f, [y, t] => decide (f = ("isinstance" : Str)) && kws.isEmpty && glB sc ("isinstance" : Str) && !isStar y && chkE D N sc a y && tyArg sc Ts t
      | _, _ => false
    | _ => false
  | sc, .me m o es, x => match x with
    | .Call f xs kws pos => match method f with
      | some (y, nm, ap) => match m, es, xs with
        | .join, .cons e .nil, [z] => decide (nm = ("join" : Str)) && kws.isEmpty && (ap.endLine == pos.line) && !isCall y && !isStar z && chkE D N sc o y && chkE D N sc e z
        | .bits, .nil, [] => decide (nm = ("bit_length" : Str)) && kws.isEmpty && (ap.endLine == pos.line) && !isCall y && chkE D N sc o y
        | _, _, _ => false
      | none => false
    | _ => false
  | sc, .sub a i, x => match x with
    | .Subscript l r _ => !isSlice r && chkE D N sc a l && chkE D N sc i r
    | _ => false
  | sc, .sli a lo hi, x => match x with
    | .Subscript l r _ => match r with
      | .Slice q1 q2 none _ => chkE D N sc a l && chkO D N sc lo q1 && chkO D N sc hi q2
      | _ => false
    | _ => false
  | sc, .slr a, x => match x with
    | .Subscript l r _ => match r with
      | .Slice none none (some (.UnaryOp .USub (.Constant (.int i) _ _) _)) _ => decide (i = 1) && chkE D N sc a l
      | _ => false
    | _ => false
  | sc, .tup es, x => match x with
    | .Tuple xs _ _ => decide (lenEs es ≤ 1000) && chkEs D N sc es xs
    | _ => false
  | sc, .lst es, x => match x with
    | .List xs _ => decide (lenEs es ≤ 1000) && chkEs D N sc es xs
    | _ => false
  | sc, .dic kv, x => match x with
    | .Dict ks vs _ => decide (ks.length ≤ 15) && decide (ks.length = vs.length) && decide (lenEs kv = 2 * ks.length) && chkD D N sc kv ks vs
    | _ => false
  | sc, .lc elt tg it c own, x => match x with
    | .ListComp y gens scope _ => match gens with
      | [⟨t, iter, ifs, as⟩] => decide (as = 0) && blkC N sc scope (own.map fun i => (N.getD i "", i)) && ((tgVs tg).all fun i => own.contains i) && chkG false N (relS scope sc) tg t && !isSet iter &&
          chkI D N sc it t iter && chkT D N (relS scope sc) c ifs && chkE D N (relS scope sc) elt y
      | _ => false
    | _ => false
  | sc, .fz a, x => plainT x && chkE D N sc a x
def chkEs (D : Ck) (N : List Str) : Scope → Es → List Expr → Bool
  | sc, .nil, xs => xs.isEmpty
  | sc, .cons e r, xs => match xs with
    | x :: xs => !isStar x && chkE D N sc e x && chkEs D N sc r xs
    | [] => false
def chkKs (D : Ck) (N : List Str) : Scope → Es → List Keyword → Bool
  | sc, .nil, xs => xs.isEmpty
  | sc, .cons e r, xs => match xs with
    | x :: xs => chkE D N sc e (kwVal x) && chkKs D N sc r xs
    | [] => false
def chkD (D : Ck) (N : List Str) : Scope → Es → List (Option Expr) → List Expr → Bool
  | sc, .nil, ks, vs => ks.isEmpty && vs.isEmpty
  | sc, .cons k (.cons e r), ks, vs => match ks, vs with
    | some x :: ks, y :: vs => chkE D N sc k x && chkE D N sc e y && chkD D N sc r ks vs
    | _, _ => false
  | sc, .cons _ .nil, _, _ => false
def chkO (D : Ck) (N : List Str) : Scope → Oe → Option Expr → Bool
  | sc, .no, x => match x with
    | none => true
    | some _ => false
  | sc, .so e, x => match x with
    | some x => chkE D N sc e x
    | none => false
def chkT (D : Ck) (N : List Str) : Scope → Oe → List Expr → Bool
  | sc, .no, x => match x with
    | [] => true
    | _ => false
  | sc, .so e, x => match x with
    | [x] => chkE D N sc e x
    | _ => false
def chkI (D : Ck) (N : List Str) : Scope → It → Expr → Expr → Bool
  | sc, .seq e, t, x => chkE D N sc e x
  | sc, .rng1 a, t, x => match x with
    | .Call f xs kws _ => match callee f, xs with
      | some f, [y] => decide (f = ("range" : Str)) && kws.isEmpty && glB sc ("range" : Str) && !isStar y && chkE D N sc a y
      | _, _ => false
    | _ => false
  | sc, .rng2 a b, t, x => match x with
    | .Call f xs kws _ => match callee f, xs with
      | some f, [y, z] => decide (f = ("range" : Str)) && kws.isEmpty && glB sc ("range" : Str) && !isStar y && !isStar z && chkE D N sc a y && chkE D N sc b z
      | _, _ => false
    | _ => false
  | sc, .enu a, t, x => match x with
    | .Call f xs kws _ => match callee f, xs with
      | some f, [y] => decide (f = ("enumerate" : Str)) && kws.isEmpty && glB sc ("enumerate" : Str) && isTuple t && !isStar y && chkE D N sc a y
      | _, _ => false
    | _ => false
  | sc, .zip a b, t, x => match x with
    | .Call f xs kws _ => match callee f, xs with
      | some f, [y, z] => decide (f = ("zip" : Str)) && kws.isEmpty && glB sc ("zip" : Str) && isTuple t && !isStar y && !isStar z && chkE D N sc a y && chkE D N sc b z
      | _, _ => false
    | _ => false
end
end PV

namespace PV
open PySem PySem.Spec PyProof.Rows L2

theorem callee_some {x : Expr} {f : Str} (h : callee x = some f) : ∃ p, x = .Name f p := by
  cases x with
  | Name g p => cases h; exact ⟨p, rfl⟩
  | _ => cases h
theorem method_some {x o : Expr} {m : Str} {p : Pos} (h : method x = some (o, m, p)) : x = .Attribute o m p := by
  cases x with
  | Attribute a b c => cases h; rfl
  | _ => cases h
theorem biN_mem (b : Bi) : biN b ∈ bltNames := by cases b <;> decide
theorem tyN_mem (n : Nat) : (tyN n : Str) ∈ bltNames := by
  match n with
  | 0 => decide
  | 1 => decide
  | 2 => decide
  | 3 => decide
  | 4 => decide
  | n + 5 => show ("dict" : Str) ∈ bltNames; decide
theorem fold_ok {x : Expr} {env : Env} (h : isSet x = false) : ∀ v, foldedSetIterable x env v = pure v := by
  intro v
  cases x <;> first | rfl | cases h
theorem keyword_eta (k : Keyword) : k = ⟨kwName k, kwVal k, match k with | ⟨_, _, p⟩ => p⟩ := by cases k; rfl
section
variable {X : Cx} {T : XT} {W : WX} {G : Cf} {F : CF} {D : Ck} {lv : Nat} {dfn : Bool} {N : List Str} {sc : Scope}
theorem Good.gl1 (g : Good X T W G F D lv dfn N sc) {x : Str} (h : glB sc x = true) : Gl X x ∧ noDbg x = true := by
  unfold glB at h
  rw [Bool.and_eq_true] at h
  refine ⟨?_, h.2⟩
  show X.env.scope.names.lookup x = some .globalImplicit
  rw [g.scp]; exact of_decide_eq_true h.1
theorem Good.un (g : Good X T W G F D lv dfn N sc) : X.A.units + 65 < cLine := by have := g.room.un; omega
theorem Good.blk (g : Good X T W G F D lv dfn N sc) (scope : Scope) (s : Shared) (H : Hp) (C : Addr) (cl : List (Str × Addr)) (fp : List Addr) : Good (X.blk s H scope (compEnvC scope cl C X.env) fp) T noW G F D lv false N (relS scope sc) where
  scp := by rw [← g.scp]; rfl
  nm := g.nm
  nod := g.nod
  calm := g.calm
  gd := g.gd
  sys := g.sys
  room := g.room
  px := fun _ _ _ _ _ _ _ c => by
    obtain ⟨_, _, _, _, _, _, _, _, _, _, _, _, z⟩ := c
    exact z
  bl := g.bl
  fc := fun z => nomatch z
  gl := g.gl
  fn := g.fn
theorem Es_nil {D : Ck} {N : List Str} {sc : Scope} {es : Es} (h : chkEs D N sc es [] = true) : es = .nil := by
  cases es with
  | nil => rfl
  | cons _ _ => simp [chkEs] at h
theorem Es_star {D : Ck} {N : List Str} {sc : Scope} : ∀ {es : Es} {xs : List Expr}, chkEs D N sc es xs = true → (xs.all fun e => !isStar e) = true
  | .nil, xs, h => by
    have e : xs = [] := by simpa [chkEs] using h
    subst e; rfl
  | .cons e r, [], h => rfl
  | .cons e r, x :: xs, h => by
    simp only [chkEs, Bool.and_eq_true] at h
    rw [List.all_cons, Bool.and_eq_true]
    exact ⟨h.1.1, Es_star h.2⟩
theorem plainT_ok {x : Expr} {env : Env} (h : plainT x = true) : ∀ whole, isTrue x env whole = (do let v ← whole; standAt x.pos; holding [v] (truthy v)) := plain_true (by
  cases x with
  | UnaryOp op _ _ => cases op <;> first | rfl | cases h
  | _ => first | rfl | cases h)
theorem chkD_all {D : Ck} {N : List Str} {sc : Scope} : ∀ {kv : Es} {ks : List (Option Expr)} {vs : List Expr}, chkD D N sc kv ks vs = true → ks.all (·.isSome) = true
  | .nil, ks, vs, h => by
    simp only [chkD, Bool.and_eq_true, List.isEmpty_iff] at h
    rw [h.1]; rfl
  | .cons _ .nil, ks, vs, h => by simp [chkD] at h
  | .cons k (.cons e r), [], vs, h => by simp [chkD] at h
  | .cons k (.cons e r), none :: ks, vs, h => by simp [chkD] at h
  | .cons k (.cons e r), some x :: ks, [], h => by simp [chkD] at h
  | .cons k (.cons e r), some x :: ks, y :: vs, h => by
    simp only [chkD, Bool.and_eq_true] at h
    rw [List.all_cons, chkD_all h.2]; rfl
end
mutual
theorem okE {T : XT} {G : Cf} {F : CF} {D : Ck} {lv : Nat} {N : List Str} : ∀ (e : E) {X : Cx} {W : WX} {dfn : Bool} {sc : Scope} (g : Good X T W G F D lv dfn N sc) (x : Expr), chkE D N sc e x = true → PE X x (tE X.K T W (evE G F e)) ∧ PT X x (tQ X.K T W (tests (evE G F e)))
  | .var i, X, W, dfn, sc, g, x, h => by
    cases x with
    | Name n p =>
      simp only [chkE, Bool.and_eq_true, decide_eq_true_eq] at h
      have := c_var (X := X) (T := T) (W := W) (G := G) (F := F) (pos := p) (by rw [g.nm]; exact h.1.1) (by rw [g.scp]; exact visB_ok h.1.2) h.2
      exact ⟨this, pt_of this fun _ => rfl⟩
    | _ => simp [chkE] at h
  | .cn c, X, W, dfn, sc, g, x, h => by
    have h' : cnB c x = true := h
    have := c_cn (X := X) (T := T) (W := W) h'
    exact ⟨this, pt_of this (cn_plain h' X.env)⟩
  | .glo k, X, W, dfn, sc, g, x, h => by
    cases x with
    | Name n p =>
      simp only [chkE, Bool.and_eq_true, decide_eq_true_eq] at h
      obtain ⟨h1, h2⟩ := g.gl1 h.2
      have := c_glo (k := 0) (T := T) (W := W) (pos := p) h1 h2 (g.gl k n h.1)
      exact ⟨this, pt_of this fun _ => rfl⟩
    | _ => simp [chkE] at h
  | .bin op a b, X, W, dfn, sc, g, x, h => by
    cases x with
    | BinOp l o r p =>
      simp only [chkE, Bool.and_eq_true, decide_eq_true_eq] at h
      obtain ⟨⟨h1, h2⟩, h3⟩ := h
      subst h1
      have := c_bin (pos := p) op (okE a g l h2).1 (okE b g r h3).1
      exact ⟨this, pt_of this fun _ => rfl⟩
    | _ => simp [chkE] at h
  | .neg a, X, W, dfn, sc, g, x, h => by
    cases x with
    | UnaryOp o l p =>
      simp only [chkE, Bool.and_eq_true, decide_eq_true_eq] at h
      obtain ⟨h1, h2⟩ := h
      subst h1
      have := c_neg (pos := p) (okE a g l h2).1
      exact ⟨this, pt_of this fun _ => rfl⟩
    | _ => simp [chkE] at h
  | .nt a, X, W, dfn, sc, g, x, h => by
    cases x with
    | UnaryOp o l p =>
      simp only [chkE, Bool.and_eq_true, decide_eq_true_eq] at h
      obtain ⟨h1, h2⟩ := h
      subst h1
      obtain ⟨i1, i2⟩ := okE a g l h2
      exact ⟨c_nt i1, pt_nt i2⟩
    | _ => simp [chkE] at h
  | .and a b, X, W, dfn, sc, g, x, h => by
    cases x with
    | BoolOp o vs p =>
      match vs, h with
      | [l, r], h =>
        simp only [chkE, Bool.and_eq_true, decide_eq_true_eq] at h
        obtain ⟨⟨h1, h2⟩, h3⟩ := h
        subst h1
        obtain ⟨i1, i2⟩ := okE a g l h2
        obtain ⟨j1, j2⟩ := okE b g r h3
        exact ⟨c_and i1 (pe_one j1), pt_and i2 (pw_and1 j2).pt⟩
      | l :: r :: r2 :: rs, h =>
        simp only [chkE, Bool.and_eq_true, decide_eq_true_eq] at h
        obtain ⟨⟨h1, h2⟩, h3⟩ := h
        subst h1
        obtain ⟨i1, i2⟩ := okE a g l h2
        obtain ⟨j1, j2⟩ := okE b g _ h3
        exact ⟨c_and i1 j1, pt_and i2 j2⟩
      | [], h => simp [chkE] at h
      | [_], h => simp [chkE] at h
    | _ => simp [chkE] at h
  | .or a b, X, W, dfn, sc, g, x, h => by
    cases x with
    | BoolOp o vs p =>
      match vs, h with
      | [l, r], h =>
        simp only [chkE, Bool.and_eq_true, decide_eq_true_eq] at h
        obtain ⟨⟨h1, h2⟩, h3⟩ := h
        subst h1
        obtain ⟨i1, i2⟩ := okE a g l h2
        obtain ⟨j1, j2⟩ := okE b g r h3
        exact ⟨c_or i1 (pe_one j1), pt_or i2 (pw_or1 j2).pt⟩
      | l :: r :: r2 :: rs, h =>
        simp only [chkE, Bool.and_eq_true, decide_eq_true_eq] at h
        obtain ⟨⟨h1, h2⟩, h3⟩ := h
        subst h1
        obtain ⟨i1, i2⟩ := okE a g l h2
        obtain ⟨j1, j2⟩ := okE b g _ h3
        exact ⟨c_or i1 j1, pt_or i2 j2⟩
      | [], h => simp [chkE] at h
      | [_], h => simp [chkE] at h
    | _ => simp [chkE] at h
  | .cmp op a b, X, W, dfn, sc, g, x, h => by
    cases x with
    | Compare l os rs p =>
      match os, rs, h with
      | [o], [r], h =>
        simp only [chkE, Bool.and_eq_true, decide_eq_true_eq, Bool.not_eq_true'] at h
        obtain ⟨⟨⟨h1, h2⟩, h3⟩, h4⟩ := h
        subst h1
        have i := (okE a g l h3).1
        have j := (okE b g r h4).1
        exact ⟨c_cmp g.un op i j h2, pt_cmp' g.un op i j h2⟩
      | [], _, h => simp [chkE] at h
      | [_], [], h => simp [chkE] at h
      | [_], _ :: _ :: _, h => simp [chkE] at h
      | _ :: _ :: _, _, h => simp [chkE] at h
    | _ => simp [chkE] at h
  | .cmp2 op op2 a b c, X, W, dfn, sc, g, x, h => by
    cases x with
    | Compare l os rs p =>
      match os, rs, h with
      | [o, o2], [r, r2], h =>
        simp only [chkE, Bool.and_eq_true, decide_eq_true_eq, Bool.not_eq_true'] at h
        obtain ⟨⟨⟨⟨⟨h1, h2⟩, h3⟩, h4⟩, h5⟩, h6⟩ := h
        subst h1 h2
        have i := (okE a g l h4).1
        have j := (okE b g r h5).1
        have k := (okE c g r2 h6).1
        exact ⟨c_cmp2 g.un op op2 i j k h3, pt_cmp2 g.un op op2 i j k h3⟩
      | [], _, h => simp [chkE] at h
      | [_], _, h => simp [chkE] at h
      | [_, _], [], h => simp [chkE] at h
      | [_, _], [_], h => simp [chkE] at h
      | [_, _], _ :: _ :: _ :: _, h => simp [chkE] at h
      | _ :: _ :: _ :: _, _, h => simp [chkE] at h
    | _ => simp [chkE] at h
  | .ife c a b, X, W, dfn, sc, g, x, h => by
    cases x with
    | IfExp z l r p =>
      simp only [chkE, Bool.and_eq_true] at h
      obtain ⟨⟨h1, h2⟩, h3⟩ := h
      obtain ⟨k1, k2⟩ := okE c g z h1
      obtain ⟨i1, i2⟩ := okE a g l h2
      obtain ⟨j1, j2⟩ := okE b g r h3
      exact ⟨c_ife k2 i1 j1, pt_ife k2 i2 j2⟩
    | _ => simp [chkE] at h
  | .callk k es ks, X, W, dfn, sc, g, x, h => by
    cases x with
    | Call f xs kws p =>
      simp only [chkE] at h
      split at h
      · next f' g' n kn e1 e2 =>
        obtain ⟨p', rfl⟩ := callee_some e1
        simp only [Bool.and_eq_true, decide_eq_true_eq] at h
        obtain ⟨⟨h1, h2⟩, ⟨⟨⟨h3, h4⟩, h5⟩, h6⟩, h7⟩ := h
        subst h1
        obtain ⟨q1, q2⟩ := g.gl1 h2
        have := c_callk (pos := p) (p := p') (g.fn k _ n kn e2) g.room g.gd g.px q1 q2 (okEs es g xs h3).1 (okKs ks g kws h4) (fun e => by subst e; exact Es_nil h3) (Es_star h3) h5 h6 h7
        exact ⟨this, pt_of this fun _ => rfl⟩
      · cases h
    | _ => simp [chkE] at h
  | .bi b es, X, W, dfn, sc, g, x, h => by
    cases x with
    | Call f xs kws p =>
      simp only [chkE] at h
      split at h
      · next f' e1 =>
        obtain ⟨p', rfl⟩ := callee_some e1
        simp only [Bool.and_eq_true, decide_eq_true_eq, List.isEmpty_iff, Bool.not_eq_true'] at h
        obtain ⟨⟨⟨⟨⟨h1, h2⟩, h3⟩, h4⟩, h5⟩, h6⟩ := h
        subst h1 h5
        obtain ⟨q1, q2⟩ := g.gl1 h3
        cases xs with
        | nil => cases h4
        | cons y ys =>
          have := c_bi (pos := p) (p := p') h2 g.calm g.gd g.un g.sys q1 (g.bl _ (biN_mem b)) (okEs es g _ h6).1 (Es_star h6)
          exact ⟨this, pt_of this fun _ => rfl⟩
      · cases h
    | _ => simp [chkE] at h
  | .isi a Ts, X, W, dfn, sc, g, x, h => by
    cases x with
    | Call f xs kws p =>
      simp only [chkE] at h
      split at h
      · next f' y t e1 =>
        obtain ⟨p', rfl⟩ := callee_some e1
        simp only [Bool.and_eq_true, decide_eq_true_eq, List.isEmpty_iff, Bool.not_eq_true'] at h
        obtain ⟨⟨⟨⟨⟨h1, h2⟩, h3⟩, h4⟩, h5⟩, h6⟩ := h
        subst h1 h2
        obtain ⟨q1, q2⟩ := g.gl1 h3
        have i := (okE a g y h5).1
        cases t with
        | Name z p2 =>
          simp only [tyArg] at h6
          split at h6
          · next n =>
            simp only [Bool.and_eq_true, decide_eq_true_eq] at h6
            obtain ⟨⟨h7, h8⟩, h9⟩ := h6
            subst h8
            have := c_isi1 (pos := p) (p := p') (p2 := p2) h7 q1 (g.bl _ (by decide)) (g.gl1 h9).1 (g.bl _ (tyN_mem n)) i h4
            exact ⟨this, pt_of this fun _ => rfl⟩
          · cases h6
        | Tuple ys k2 p2 =>
          simp only [tyArg, Bool.and_eq_true, decide_eq_true_eq] at h6
          obtain ⟨⟨h7, h8⟩, h9⟩ := h6
          have := c_isiT (pos := p) (p := p') (p2 := p2) (k2 := k2) h7 h8 q1 (g.bl _ (by decide)) (fun n hn => (g.gl1 (List.all_eq_true.mp h9 n hn)).1) (fun n _ => g.bl _ (tyN_mem n)) i h4
          exact ⟨this, pt_of this fun _ => rfl⟩
        | _ => simp [tyArg] at h6
      · cases h
    | _ => simp [chkE] at h
  | .me m o es, X, W, dfn, sc, g, x, h => by
    cases x with
    | Call f xs kws p =>
      simp only [chkE] at h
      split at h
      · next y nm ap e1 =>
        have e2 := method_some e1
        subst e2
        split at h
        · next e z =>
          simp only [Bool.and_eq_true, decide_eq_true_eq, List.isEmpty_iff, Bool.not_eq_true'] at h
          obtain ⟨⟨⟨⟨⟨⟨h1, h2⟩, h3⟩, h4⟩, h5⟩, h6⟩, h7⟩ := h
          subst h1 h2
          have := c_join (okE o g y h6).1 (okE e g z h7).1 h5 h4 h3
          exact ⟨this, pt_of this fun _ => rfl⟩
        · simp only [Bool.and_eq_true, decide_eq_true_eq, List.isEmpty_iff, Bool.not_eq_true'] at h
          obtain ⟨⟨⟨⟨h1, h2⟩, h3⟩, h4⟩, h5⟩ := h
          subst h1 h2
          have := c_bits (okE o g y h5).1 h4 h3
          exact ⟨this, pt_of this fun _ => rfl⟩
        · cases h
      · cases h
    | _ => simp [chkE] at h
  | .sub a i, X, W, dfn, sc, g, x, h => by
    cases x with
    | Subscript l r p =>
      simp only [chkE, Bool.and_eq_true, Bool.not_eq_true'] at h
      have := c_sub (pos := p) g.un (okE a g l h.1.2).1 (okE i g r h.2).1 h.1.1
      exact ⟨this, pt_of this fun _ => rfl⟩
    | _ => simp [chkE] at h
  | .sli a lo hi, X, W, dfn, sc, g, x, h => by
    cases x with
    | Subscript l r p =>
      simp only [chkE] at h
      split at h
      · simp only [Bool.and_eq_true] at h
        have i := (okE a g l h.1.1).1
        have j := okO lo g _ h.1.2
        have k := okO hi g _ h.2
        exact ⟨c_sli i j k, pt_of (c_sli i j k) fun _ => rfl⟩
      · cases h
    | _ => simp [chkE] at h
  | .slr a, X, W, dfn, sc, g, x, h => by
    cases x with
    | Subscript l r p =>
      simp only [chkE] at h
      split at h
      · simp only [Bool.and_eq_true, decide_eq_true_eq] at h
        obtain ⟨h1, h2⟩ := h
        subst h1
        have i := (okE a g l h2).1
        exact ⟨c_slr i, pt_of (c_slr i) fun _ => rfl⟩
      · cases h
    | _ => simp [chkE] at h
  | .tup es, X, W, dfn, sc, g, x, h => by
    cases x with
    | Tuple xs k2 p =>
      simp only [chkE, Bool.and_eq_true, decide_eq_true_eq] at h
      have := c_tup (pos := p) (k2 := k2) (okEs es g xs h.2).2 h.1
      exact ⟨this, pt_of this fun _ => rfl⟩
    | _ => simp [chkE] at h
  | .lst es, X, W, dfn, sc, g, x, h => by
    cases x with
    | List xs p =>
      simp only [chkE, Bool.and_eq_true, decide_eq_true_eq] at h
      have := c_lst (pos := p) (okEs es g xs h.2).2 h.1
      exact ⟨this, pt_of this fun _ => rfl⟩
    | _ => simp [chkE] at h
  | .dic kv, X, W, dfn, sc, g, x, h => by
    cases x with
    | Dict ks vs p =>
      simp only [chkE, Bool.and_eq_true, decide_eq_true_eq] at h
      obtain ⟨⟨⟨h1, h2⟩, h3⟩, h4⟩ := h
      cases ks with
      | nil =>
        have hv : vs = [] := by
          cases vs with
          | nil => rfl
          | cons _ _ => simp at h2
        subst hv
        have hk : kv = .nil := by
          cases kv with
          | nil => rfl
          | cons _ _ => simp [lenEs] at h3
        subst hk
        have := c_dic0 (X := X) (T := T) (W := W) (G := G) (F := F) (pos := p)
        exact ⟨this, pt_of this fun _ => rfl⟩
      | cons k ks =>
        have := c_dic (okD kv g _ _ p h4) (chkD_all h4) h2 (by simp) h1 h3
        exact ⟨this, pt_of this fun _ => rfl⟩
    | _ => simp [chkE] at h
  | .lc elt tg it c own, X, W, dfn, sc, g, x, h => by
    cases x with
    | ListComp y gens scope p =>
      simp only [chkE] at h
      split at h
      · next t iter ifs as =>
        simp only [Bool.and_eq_true, decide_eq_true_eq, Bool.not_eq_true'] at h
        obtain ⟨⟨⟨⟨⟨⟨⟨h0, h1⟩, h2⟩, h3⟩, h4⟩, h5⟩, h6⟩, h7⟩ := h
        subst h0
        have ow : (own.map fun i => (N.getD i "", i)).map (·.2) = own := by
          rw [List.map_map]
          exact List.map_id own
        have := pe_lc (g := gR X.K (tgVs tg) (bindT tg)) (tt := tQ X.K T noW (evT G F c)) (te := tF X.K T noW (frz (evE G F elt))) (pos := p) (own := own.map fun i => (N.getD i "", i)) g.calm (by rw [g.nm]; exact g.nod) (okI it g t iter h5) (by rw [g.nm, g.scp]; exact blkOk_by h1)
          (fun s H C cl fp => chkG_ok (dfn := false) (X := X.blk s H scope (compEnvC scope cl C X.env) fp) g.nm g.nod g.calm (g.blk scope s H C cl fp).scp (fun z => nomatch z) tg t h3)
          (fun s H C cl fp => okT c (g.blk scope s H C cl fp) ifs h6) (fun s H C cl fp => peF (okE elt (g.blk scope s H C cl fp) y h7).1) (fold_ok h4)
        rw [ow] at this
        have q := pe_imp this fun σ H Q h => tLc_of h2 h
        exact ⟨q, pt_of q fun _ => rfl⟩
      · cases h
    | _ => simp [chkE] at h
  | .fz a, X, W, dfn, sc, g, x, h => by
    simp only [chkE, Bool.and_eq_true] at h
    have i := (okE a g x h.2).1
    exact ⟨c_fz i, pt_fz i (plainT_ok h.1)⟩
theorem okEs {T : XT} {G : Cf} {F : CF} {D : Ck} {lv : Nat} {N : List Str} : ∀ (es : Es) {X : Cx} {W : WX} {dfn : Bool} {sc : Scope} (g : Good X T W G F D lv dfn N sc) (xs : List Expr), chkEs D N sc es xs = true → PA X xs (tAs X.K T W (evEs G F es)) ∧ PA X xs (tFs X.K T W (evFs G F es))
  | .nil, X, W, dfn, sc, g, xs, h => by
    have e : xs = [] := by simpa [chkEs] using h
    subst e
    exact ⟨ca_nil, cf_nil⟩
  | .cons e r, X, W, dfn, sc, g, [], h => by simp [chkEs] at h
  | .cons e r, X, W, dfn, sc, g, x :: xs, h => by
    simp only [chkEs, Bool.and_eq_true, Bool.not_eq_true'] at h
    have i := (okE e g x h.1.2).1
    obtain ⟨j1, j2⟩ := okEs r g xs h.2
    exact ⟨ca_cons i j1 h.1.1, cf_cons i j2 h.1.1⟩
theorem okKs {T : XT} {G : Cf} {F : CF} {D : Ck} {lv : Nat} {N : List Str} : ∀ (es : Es) {X : Cx} {W : WX} {dfn : Bool} {sc : Scope} (g : Good X T W G F D lv dfn N sc) (xs : List Keyword), chkKs D N sc es xs = true → PK X xs (tAs X.K T W (evEs G F es))
  | .nil, X, W, dfn, sc, g, xs, h => by
    have e : xs = [] := by simpa [chkKs] using h
    subst e
    exact ck_nil
  | .cons e r, X, W, dfn, sc, g, [], h => by simp [chkKs] at h
  | .cons e r, X, W, dfn, sc, g, x :: xs, h => by
    simp only [chkKs, Bool.and_eq_true] at h
    have i := (okE e g (kwVal x) h.1).1
    have j := okKs r g xs h.2
    rw [keyword_eta x]
    exact ck_cons i j
theorem okD {T : XT} {G : Cf} {F : CF} {D : Ck} {lv : Nat} {N : List Str} : ∀ (es : Es) {X : Cx} {W : WX} {dfn : Bool} {sc : Scope} (g : Good X T W G F D lv dfn N sc) (ks : List (Option Expr)) (vs : List Expr) (pos : Pos), chkD D N sc es ks vs = true → PPs X pos ks vs (trsOf X.K T W G F es)
  | .nil, X, W, dfn, sc, g, ks, vs, pos, h => by
    simp only [chkD, Bool.and_eq_true, List.isEmpty_iff] at h
    rw [h.1, h.2]
    exact pps_nil
  | .cons _ .nil, X, W, dfn, sc, g, ks, vs, pos, h => by simp [chkD] at h
  | .cons k (.cons e r), X, W, dfn, sc, g, [], vs, pos, h => by simp [chkD] at h
  | .cons k (.cons e r), X, W, dfn, sc, g, none :: ks, vs, pos, h => by simp [chkD] at h
  | .cons k (.cons e r), X, W, dfn, sc, g, some x :: ks, [], pos, h => by simp [chkD] at h
  | .cons k (.cons e r), X, W, dfn, sc, g, some x :: ks, y :: vs, pos, h => by
    simp only [chkD, Bool.and_eq_true] at h
    exact pps_cons (peF (okE k g x h.1.1).1) (peF (okE e g y h.1.2).1) (okD r g ks vs pos h.2)
theorem okO {T : XT} {G : Cf} {F : CF} {D : Ck} {lv : Nat} {N : List Str} : ∀ (o : Oe) {X : Cx} {W : WX} {dfn : Bool} {sc : Scope} (g : Good X T W G F D lv dfn N sc) (x : Option Expr), chkO D N sc o x = true → PO X x (tO X.K T W (evO G F o))
  | .no, X, W, dfn, sc, g, x, h => by
    cases x with
    | none => exact co_no
    | some _ => simp [chkO] at h
  | .so e, X, W, dfn, sc, g, x, h => by
    cases x with
    | some x =>
      simp only [chkO] at h
      exact co_so (okE e g x h).1
    | none => simp [chkO] at h
theorem okT {T : XT} {G : Cf} {F : CF} {D : Ck} {lv : Nat} {N : List Str} : ∀ (o : Oe) {X : Cx} {W : WX} {dfn : Bool} {sc : Scope} (g : Good X T W G F D lv dfn N sc) (x : List Expr), chkT D N sc o x = true → PTs X x (tQ X.K T W (evT G F o))
  | .no, X, W, dfn, sc, g, x, h => by
    cases x with
    | nil => exact ⟨fun pins s σ H Q I ⟨FH, e, R, q⟩ => (pts_nil (X := X)).run pins s σ H Q I (q FH H (.refl R))⟩
    | cons _ _ => simp [chkT] at h
  | .so e, X, W, dfn, sc, g, x, h => by
    match x, h with
    | [x], h =>
      simp only [chkT] at h
      exact pts_one (okE e g x h).2
    | [], h => simp [chkT] at h
    | _ :: _ :: _, h => simp [chkT] at h
theorem okI {T : XT} {G : Cf} {F : CF} {D : Ck} {lv : Nat} {N : List Str} : ∀ (it : It) {X : Cx} {W : WX} {dfn : Bool} {sc : Scope} (g : Good X T W G F D lv dfn N sc) (t x : Expr), chkI D N sc it t x = true → PI X t x (iR X.K T W it.isRng (evI G F it))
  | .seq e, X, W, dfn, sc, g, t, x, h => by
    simp only [chkI] at h
    exact ci_seq (okE e g x h).1
  | .rng1 a, X, W, dfn, sc, g, t, x, h => by
    cases x with
    | Call f xs kws p =>
      simp only [chkI] at h
      split at h
      · next f' y e1 =>
        obtain ⟨p', rfl⟩ := callee_some e1
        simp only [Bool.and_eq_true, decide_eq_true_eq, List.isEmpty_iff, Bool.not_eq_true'] at h
        obtain ⟨⟨⟨⟨h1, h2⟩, h3⟩, h4⟩, h5⟩ := h
        subst h1 h2
        exact ci_rng1 (g.gl1 h3).1 (g.bl _ (by decide)) (okE a g y h5).1 h4
      · cases h
    | _ => simp [chkI] at h
  | .rng2 a b, X, W, dfn, sc, g, t, x, h => by
    cases x with
    | Call f xs kws p =>
      simp only [chkI] at h
      split at h
      · next f' y z e1 =>
        obtain ⟨p', rfl⟩ := callee_some e1
        simp only [Bool.and_eq_true, decide_eq_true_eq, List.isEmpty_iff, Bool.not_eq_true'] at h
        obtain ⟨⟨⟨⟨⟨⟨h1, h2⟩, h3⟩, h4⟩, h5⟩, h6⟩, h7⟩ := h
        subst h1 h2
        exact ci_rng2 (g.gl1 h3).1 (g.bl _ (by decide)) (okE a g y h6).1 (okE b g z h7).1 h4 h5
      · cases h
    | _ => simp [chkI] at h
  | .enu a, X, W, dfn, sc, g, t, x, h => by
    cases x with
    | Call f xs kws p =>
      simp only [chkI] at h
      split at h
      · next f' y e1 =>
        obtain ⟨p', rfl⟩ := callee_some e1
        simp only [Bool.and_eq_true, decide_eq_true_eq, List.isEmpty_iff, Bool.not_eq_true'] at h
        obtain ⟨⟨⟨⟨⟨h1, h2⟩, h3⟩, h4⟩, h5⟩, h6⟩ := h
        subst h1 h2
        cases t with
        | Tuple elts kk tp => exact ci_enu (g.gl1 h3).1 (g.bl _ (by decide)) (okE a g y h6).1 h5
        | _ => cases h4
      · cases h
    | _ => simp [chkI] at h
  | .zip a b, X, W, dfn, sc, g, t, x, h => by
    cases x with
    | Call f xs kws p =>
      simp only [chkI] at h
      split at h
      · next f' y z e1 =>
        obtain ⟨p', rfl⟩ := callee_some e1
        simp only [Bool.and_eq_true, decide_eq_true_eq, List.isEmpty_iff, Bool.not_eq_true'] at h
        obtain ⟨⟨⟨⟨⟨⟨⟨h1, h2⟩, h3⟩, h4⟩, h5⟩, h6⟩, h7⟩, h8⟩ := h
        subst h1 h2
        cases t with
        | Tuple elts kk tp => exact ci_zip (g.gl1 h3).1 (g.bl _ (by decide)) (okE a g y h7).1 (okE b g z h8).1 h5 h6
        | _ => cases h4
      · cases h
    | _ => simp [chkI] at h
end
end PV

namespace PV
open PySem PySem.Spec PyProof.Rows L2

/-! ### stores of names, by the text -/
theorem star_any (vs : List Expr) : (vs.any fun | .Starred .. => true | _ => false) = vs.any isStar := by
  congr 1
def foldAll (vs : List Expr) : Bool := !(vs.all (foldedForSure 8)) && !(vs.all (constantsAlone 8))
def swapNames (sc : Scope) (ts : List Expr) : List Str := ts.filterMap fun
    | .Name id pos => if sc.names.lookup id == some .local && pos.line == (ts.head?.map (·.pos.line)).getD 0 then some id else none
    | _ => none
theorem swap_names {env : Env} (ts : List Expr) : (ts.filterMap fun
    | .Name id pos => if env.kindOf id == some .local && pos.line == (ts.head?.map (·.pos.line)).getD 0 then some id else none
    | _ => none) = swapNames env.scope ts := rfl
theorem swap_some {env : Env} {ts vs : List Expr} {ns : List Str} {k k2 : Nat} {p p2 : Pos} (hk : env.scope.kind = .function) (hl : ts.length = 2 ∨ ts.length = 3) (hv : vs.length = ts.length) (hs : vs.any isStar = false) (hn : swapNames env.scope ts = ns) (hnl : ns.length = ts.length) (hd : ns.eraseDups.length = ns.length)
    (hf : foldAll vs = true) : swappedStores [.Tuple ts k p] (.Tuple vs k2 p2) env = pure (some ns) := by
  have hb : env.blockKind = .function := by unfold Env.blockKind; rw [hk]; rfl
  unfold foldAll at hf
  simp only [Bool.and_eq_true, Bool.not_eq_true'] at hf
  unfold swappedStores
  have h0 : (!(ts.length == 2 || ts.length == 3) || vs.length != ts.length || env.blockKind != .function) = false := by
    rw [hb, hv]
    rcases hl with e | e <;> rw [e] <;> decide
  have h1 := swap_names (env := env) ts
  rw [hn] at h1
  simp only [h0, Bool.false_eq_true, if_false]
  change (if vs.any isStar = true then _ else if ((swapNames env.scope ts).length != ts.length || (swapNames env.scope ts).eraseDups.length != (swapNames env.scope ts).length) = true then _ else if (vs.all (foldedForSure 8)) = true then _ else (if vs.all (constantsAlone 8) = true then _ else pure (some (swapNames env.scope ts)))) = _
  rw [hs, hn, hnl, hd, hf.1, hf.2]
  simp [hnl]
theorem swap_none {env : Env} {ts vs : List Expr} {k k2 : Nat} {p p2 : Pos} (h : vs.any isStar = false) (hn : ((!(ts.length == 2 || ts.length == 3) || vs.length != ts.length) || (swapNames env.scope ts).length != ts.length) = true) : swappedStores [.Tuple ts k p] (.Tuple vs k2 p2) env = pure none := by
  unfold swappedStores
  by_cases h0 : (!(ts.length == 2 || ts.length == 3) || vs.length != ts.length || env.blockKind != .function) = true
  · simp only [h0, if_true]
  · have h0' : (!(ts.length == 2 || ts.length == 3) || vs.length != ts.length || env.blockKind != .function) = false := by simpa using h0
    have h2 : (swapNames env.scope ts).length != ts.length := by
      simp only [Bool.or_eq_false_iff] at h0'
      rw [h0'.1.1, h0'.1.2] at hn
      simpa using hn
    have h1 := swap_names (env := env) ts
    simp only [h0', Bool.false_eq_true, if_false]
    change (if vs.any isStar = true then _ else if ((swapNames env.scope ts).length != ts.length || (swapNames env.scope ts).eraseDups.length != (swapNames env.scope ts).length) = true then _ else _) = _
    rw [h, h2]
    rfl
theorem swap_fold {env : Env} {ts vs : List Expr} {k k2 : Nat} {p p2 : Pos} (h : vs.any isStar = false) (hf : vs.all (foldedForSure 8) = true) : swappedStores [.Tuple ts k p] (.Tuple vs k2 p2) env = pure none := by
  unfold swappedStores
  by_cases h0 : (!(ts.length == 2 || ts.length == 3) || vs.length != ts.length || env.blockKind != .function) = true
  · simp only [h0, if_true]
  · have h0' : (!(ts.length == 2 || ts.length == 3) || vs.length != ts.length || env.blockKind != .function) = false := by simpa using h0
    simp only [h0', Bool.false_eq_true, if_false]
    change (if vs.any isStar = true then _ else if ((swapNames env.scope ts).length != ts.length || (swapNames env.scope ts).eraseDups.length != (swapNames env.scope ts).length) = true then _ else if (vs.all (foldedForSure 8)) = true then _ else _) = _
    rw [h, hf]
    simp
theorem swap_other {env : Env} {t v : Expr} (h : isTuple v = false) : swappedStores [t] v env = pure none := by
  unfold swappedStores
  cases v <;> first | (cases h; done) | (cases t <;> rfl)
theorem swap_sub {env : Env} {o i v : Expr} {p : Pos} : swappedStores [.Subscript o i p] v env = pure none := by
  unfold swappedStores
  cases v <;> rfl
def isComp : Expr → Bool
  | .ListComp .. => true
  | .SetComp .. => true
  | .DictComp .. => true
  | _ => false
theorem swaps_none {e : Expr} {t : Option Expr} {l : Nat} {env : Env} (h : isComp e = false) : swapsWith e t l env = pure false := by
  cases e <;> first | (cases h; done) | rfl
/-- a comprehension's store is done within it -/
def swB (sc : Scope) (n : Str) (p : Pos) : Expr → Bool
  | .ListComp _ _ scope pos => decide (sc.names.lookup n = some .local) && p.line == pos.line && !(scope.names.any fun (m, k) => m == n && (k == .local || k == .cell))
  | .SetComp .. => true
  | .DictComp .. => true
  | _ => false
theorem swaps_no {e : Expr} {n : Str} {p : Pos} {l : Nat} {env : Env} (h : swB env.scope n p e = false) : swapsWith e (some (.Name n p)) l env = pure false := by
  cases e with
  | ListComp elt gs scope pos =>
    unfold swapsWith
    show pure (env.blockKind == .function && env.kindOf n == some .local && p.line == pos.line && !(scope.names.any fun (m, k) => m == n && (k == .local || k == .cell))) = _
    simp only [swB] at h
    rw [show (env.kindOf n == some .local) = decide (env.scope.names.lookup n = some .local) by
      show (env.scope.names.lookup n == some .local) = _
      rw [Bool.eq_iff_iff]; simp]
    congr 1
    generalize hA : decide (env.scope.names.lookup n = some .local) = A at h ⊢
    generalize hB : (p.line == pos.line) = B at h ⊢
    generalize hC : (!(scope.names.any fun (m, k) => m == n && (k == .local || k == .cell))) = C at h ⊢
    cases A <;> cases B <;> cases C <;> simp_all
  | SetComp _ _ _ _ => cases h
  | DictComp _ _ _ _ _ => cases h
  | _ => rfl

/-! ### statements: what is asked of an outcome -/
structure AfS (kp : List Nat) (K : PySem.W.Frag) (FH : Hp) (e : En) (σ : Sto) (H : Hp) (FH' : Hp) (e' : En) (σ' : Sto) (H' : Hp) : Prop where
  rl : Rl K FH' e' σ' H'
  st : Stp FH e σ H FH' e' σ' H'
  kp : ∀ i ∈ kp, σ'[i]? = σ[i]?
theorem After.s {kp : List Nat} {K : PySem.W.Frag} {FH H FH' H' : Hp} {e e' : En} {σ : Sto} (A : After K FH e σ H FH' e' H') : AfS kp K FH e σ H FH' e' σ H' := ⟨A.rl, A.st, fun _ _ => rfl⟩
theorem AfS.refl {kp : List Nat} {K : PySem.W.Frag} {FH H : Hp} {e : En} {σ : Sto} (R : Rl K FH e σ H) : AfS kp K FH e σ H FH e σ H := ⟨R, .refl .., fun _ _ => rfl⟩
theorem AfS.trans {kp : List Nat} {K : PySem.W.Frag} {FH H FH1 H1 FH2 H2 : Hp} {e e1 e2 : En} {σ σ1 σ2 : Sto} (x : AfS kp K FH e σ H FH1 e1 σ1 H1) (y : AfS kp K FH1 e1 σ1 H1 FH2 e2 σ2 H2) : AfS kp K FH e σ H FH2 e2 σ2 H2 := ⟨y.rl, x.st.trans y.st, fun i h => (y.kp i h).trans (x.kp i h)⟩
def PostS (kp : List Nat) (K : PySem.W.Frag) (T : XT) (W : WX) (FH : Hp) (s : En) (σ : Sto) (H : Hp) (P : Hp → En → Sto → Hp → Fl → Prop) (o : Out Fl) : Prop :=
  match o with
  | .ok f s' => ∀ FH' σ' H', AfS kp K FH s σ H FH' s' σ' H' → P FH' s' σ' H' f
  | .exc x s' => ∀ FH' σ' H' cls d, AfS kp K FH s σ H FH' s' σ' H' → ExR K T FH' H' x cls d → W cls d σ' H'
  | .stuck => False
/-- an expression, then the rest of a statement -/
theorem PostS.bindE {α : Type} {kp : List Nat} {K : PySem.W.Frag} {T : XT} {W : WX} {FH H : Hp} {s : En} {σ : Sto} {P : Hp → En → Sto → Hp → Fl → Prop} {o : Out α} {f : α → En → Out Fl} (h : PostS kp K T W FH s σ H P (o.bind f)) :
    Post K T W FH s σ H (fun FH1 s1 H1 x => After K FH s σ H FH1 s1 H1 ∧ PostS kp K T W FH1 s1 σ H1 P (f x s1)) o := by
  cases o with
  | stuck => exact h.elim
  | exc x s' => exact fun FH' H' cls d A ex => h FH' σ H' cls d A.s ex
  | ok x s1 =>
    intro FH1 H1 A1
    refine ⟨A1, ?_⟩
    rw [Out.bind_ok] at h
    cases q : f x s1 with
    | stuck => rw [q] at h; exact h.elim
    | exc x s' =>
      rw [q] at h
      intro FH2 σ2 H2 cls d A2 ex
      exact h FH2 σ2 H2 cls d (A1.s.trans A2) ex
    | ok y s2 =>
      rw [q] at h
      intro FH2 σ2 H2 A2
      exact h FH2 σ2 H2 (A1.s.trans A2)
/-- a statement, then the rest -/
theorem PostS.bindS {kp : List Nat} {K : PySem.W.Frag} {T : XT} {W : WX} {FH H : Hp} {s : En} {σ : Sto} {P : Hp → En → Sto → Hp → Fl → Prop} {o : Out Fl} {f : Fl → En → Out Fl} (h : PostS kp K T W FH s σ H P (o.bind f)) :
    PostS kp K T W FH s σ H (fun FH1 s1 σ1 H1 x => AfS kp K FH s σ H FH1 s1 σ1 H1 ∧ PostS kp K T W FH1 s1 σ1 H1 P (f x s1)) o := by
  cases o with
  | stuck => exact h.elim
  | exc x s' => exact h
  | ok x s1 =>
    intro FH1 σ1 H1 A1
    refine ⟨A1, ?_⟩
    rw [Out.bind_ok] at h
    cases q : f x s1 with
    | stuck => rw [q] at h; exact h.elim
    | exc x s' =>
      rw [q] at h
      intro FH2 σ2 H2 cls d A2 ex
      exact h FH2 σ2 H2 cls d (A1.trans A2) ex
    | ok y s2 =>
      rw [q] at h
      intro FH2 σ2 H2 A2
      exact h FH2 σ2 H2 (A1.trans A2)
theorem PostS.imp {kp : List Nat} {K : PySem.W.Frag} {T : XT} {W : WX} {FH H : Hp} {s : En} {σ : Sto} {P P' : Hp → En → Sto → Hp → Fl → Prop} {o : Out Fl} (h : PostS kp K T W FH s σ H P o)
    (i : ∀ FH' s' σ' H' x, o = .ok x s' → AfS kp K FH s σ H FH' s' σ' H' → P FH' s' σ' H' x → P' FH' s' σ' H' x) : PostS kp K T W FH s σ H P' o := by
  cases o with
  | stuck => exact h.elim
  | exc x s' => exact h
  | ok x s1 => exact fun FH1 σ1 H1 A1 => i FH1 s1 σ1 H1 x rfl A1 (h FH1 σ1 H1 A1)
/-- what is wanted behind a statement, by the evaluator's flow; Hs: the heap at the beginning -/
def EndR (K : PySem.W.Frag) (Hs : Hp) (D : Ends) : Hp → En → Sto → Hp → Fl → Prop := fun FH' s' σ' H' f => match f with
  | .nx => D.nx σ' H'
  | .bk => D.bk σ' H'
  | .ct => D.ct σ' H'
  | .rt v => ∀ u, ValR K FH' s' σ' Hs H' u v → D.rt u H'
def tSt (kp : List Nat) (K : PySem.W.Frag) (T : XT) (W : WX) (ev : En → Out Fl) : TS := fun D σ H => ∃ FH s, Rl K FH s σ H ∧ PostS kp K T W FH s σ H (EndR K H D) (ev s)
theorem EndR.from {K : PySem.W.Frag} {Hs Hs' : Hp} {D : Ends} {FH' : Hp} {s' : En} {σ' : Sto} {H' : Hp} {f : Fl} (a : ∀ p, Hs p = none → Hs' p = none) (h : EndR K Hs' D FH' s' σ' H' f) : EndR K Hs D FH' s' σ' H' f := by
  cases f with
  | rt v => exact fun u r => h u (r.from a)
  | nx => exact h
  | bk => exact h
  | ct => exact h
section
variable {K : PySem.W.Frag} {FH FH' H H' : Hp} {e e' s : En} {σ σ' : Sto}
/-- a new object comes into a slot -/
theorem Rl.putO (R : Rl K FH e σ H) {i : Nat} {d : PyData} {p : Addr} (n : FH p = none) (t : Top K FH H d p) (ns : ∀ (j : Nat) (s : Slot), e[j]? = some (some s) → s.mine = true → σ[j]? ≠ some (some (V.ref p))) :
    Rl K FH (e.set i (some (.own d))) (σ.set i (some (.ref p))) H := by
  refine ⟨R.sub, by simp [R.len], fun j u hu => ?_, fun j k a t1 t2 hjk h1 hu h2 h3 hm => ?_⟩
  · rcases set_get_cases hu with ⟨rfl, e1, hl⟩ | ⟨hne, h⟩
    · cases e1
      exact ⟨.ref p, by rw [List.getElem?_set_self (by rw [← R.len]; exact hl)], p, rfl, n, t⟩
    · obtain ⟨u, e1, q⟩ := R.slot j u h
      exact ⟨u, by rw [List.getElem?_set_ne hne]; exact e1, q⟩
  · rcases set_get_cases h1 with ⟨rfl, e1, hl⟩ | ⟨n1, h1⟩
    · rw [List.getElem?_set_self (by rw [← R.len]; exact hl)] at h2
      cases h2
      rcases set_get_cases h3 with ⟨e2, _, _⟩ | ⟨n2, h3⟩
      · exact absurd e2 hjk
      · rw [List.getElem?_set_ne n2]
        exact ns k t2 h3 hm
    · rw [List.getElem?_set_ne n1] at h2
      rcases set_get_cases h3 with ⟨rfl, e1, hl⟩ | ⟨n2, h3⟩
      · rw [List.getElem?_set_self (by rw [← R.len]; exact hl)]
        intro z
        cases z
        exact ns j t1 h1 (Slot.mine_of_uniq hu) h2
      · rw [List.getElem?_set_ne n2]
        exact R.sep j k a t1 t2 hjk h1 hu h2 h3 hm
theorem Stp.putO (S : Stp FH e σ H FH' e' σ' H') {i : Nat} {d : PyData} {p : Addr} (hp : H p = none) (hl : e'.length = σ'.length) : Stp FH e σ H FH' (e'.set i (some (.own d))) (σ'.set i (some (.ref p))) H' := by
  refine ⟨S.fle, S.keep, S.aloc, S.fnew, fun a ⟨j, d', h1, h2⟩ => ?_, fun a ⟨j, t, h1, hm, h2⟩ => ?_, fun j d' h => ?_⟩
  · rcases set_get_cases h1 with ⟨rfl, e1, hi⟩ | ⟨n1, h1⟩
    · rw [List.getElem?_set_self (by rw [← hl]; exact hi)] at h2
      cases h2; exact .inr hp
    · rw [List.getElem?_set_ne n1] at h2
      exact S.own a ⟨j, d', h1, h2⟩
  · rcases set_get_cases h1 with ⟨rfl, e1, hi⟩ | ⟨n1, h1⟩
    · rw [List.getElem?_set_self (by rw [← hl]; exact hi)] at h2
      cases h2; exact .inr hp
    · rw [List.getElem?_set_ne n1] at h2
      exact S.mn a ⟨j, t, h1, hm, h2⟩
  · rcases set_get_cases h with ⟨rfl, e1, _⟩ | ⟨n1, h1⟩
    · cases e1
    · rw [List.getElem?_set_ne n1]
      exact S.lk j d' h1
end

/-! ### assignments -/
theorem set_kp {σ : Sto} {i : Nat} {v : Option V} {kp : List Nat} (h : i ∉ kp) : ∀ j ∈ kp, (σ.set i v)[j]? = σ[j]? := fun j hj => by
  rw [List.getElem?_set_ne fun e => h (by rw [e]; exact hj)]
section
variable {kp : List Nat} {X : Cx} {T : XT} {W : WX} {x y z tg : Expr} {xs : List Expr} {pos : Pos} {G : Cf} {F : CF} {a b c : E} {es : Es} {i : Nat}
theorem gName_of (hk : i ∉ kp) {D : Ends} {σ : Sto} {H : Hp} (h : tSt kp X.K T W (evS G F (.asg (.v i) a)) D σ H) : tE X.K T W (evE G F a) σ H (fun x H1 => gName i x σ H1 D.nx) := by
  obtain ⟨FH, s, R, q⟩ := h
  simp only [evS] at q
  refine ⟨FH, s, R, q.bindE.imp fun FH1 s1 H1 x hx A1 q1 v r1 => ?_⟩
  obtain ⟨_, q1⟩ := q1
  rw [hx, Out.bind_ok] at q
  show D.nx (σ.set i (some v)) H1
  cases x with
  | fresh d =>
    obtain ⟨p, rfl, n, np, t, ns⟩ := r1
    exact q FH1 _ H1 ⟨A1.rl.putO n t ns, A1.st.putO np A1.rl.len, set_kp hk⟩
  | imm d =>
    obtain ⟨R2, S2⟩ := A1.rl.putI (i := i) r1
    exact q FH1 _ H1 ⟨R2, A1.st.trans S2, set_kp hk⟩
  | vr j =>
    -- a slot's value is frozen
    have r1' : σ[j]? = some (some v) := r1
    simp only at q1
    rw [fzv_vr] at q1
    cases hj : s1[j]? with
    | none => rw [hj] at q1; exact q1.elim
    | some o =>
      rw [hj] at q1
      cases o with
      | none => exact q1.elim
      | some sl =>
        cases sl with
        | imm d =>
          obtain ⟨u, hu, r⟩ := A1.rl.slot j _ hj
          rw [r1'] at hu; cases hu
          obtain ⟨R2, S2⟩ := A1.rl.putI (i := i) r
          exact q1 FH1 _ H1 ⟨R2, S2, set_kp hk⟩
        | own d =>
          obtain ⟨p, o, e1, ho, R2, S2, dr⟩ := A1.rl.freeze hj
          rw [r1'] at e1; cases e1
          obtain ⟨R3, S3⟩ := R2.putI (i := i) dr
          exact q1 _ _ H1 ⟨R3, S2.trans S3, set_kp hk⟩
        | lok d => exact q1.elim
        | bor d => exact q1.elim
theorem s_asgV {n : Str} {p : Pos} (hk : i ∉ kp) (hN : X.N[i]? = some n) (hd : X.N.Nodup) (hx : L2.Loc X.env.scope n) (hf : X.fn n = true ∨ X.env.scope.names.lookup n = some .local) (ha : PE X x (tE X.K T W (evE G F a))) (hs : swB X.env.scope n p x = false) :
    PS X (.Assign [.Name n p] x pos) (tSt kp X.K T W (evS G F (.asg (.v i) a))) :=
  ps_imp (ps_set hd hN hx ha (swaps_no hs) hf) fun D σ H h => gName_of hk h
theorem gR_of {ts : Tgs} (hk : ∀ j ∈ kp, j ∉ tgVs (.t ts)) {D : Ends} {σ : Sto} {H : Hp} (h : tSt kp X.K T W (evS G F (.asg (.t ts) a)) D σ H) : tF X.K T W (frz (evE G F a)) σ H (fun v H1 => gR X.K (tgVs (.t ts)) (bindT (.t ts)) v σ H1 D.nx) := by
  obtain ⟨FH, s, R, q⟩ := h
  simp only [evS] at q
  refine ⟨FH, s, R, q.bindE.imp fun FH1 s1 H1 d _ A1 q v r1 => ?_⟩
  obtain ⟨_, q⟩ := q
  cases hb : bindT (.t ts) d s1 with
  | none => rw [hb] at q; exact q.elim
  | some s2 =>
    rw [hb] at q
    exact ⟨FH1, s1, d, s2, A1.rl, r1, hb, fun σ' R2 S2 O => q FH1 σ' H1 ⟨R2, S2, fun j hj => O.2 j (hk j hj)⟩⟩
theorem each_one {t : Expr} {env : Env} (h : isStar t = false) : (assignEach [t] env).map (·.2) = [assign t env] := by
  rw [each_star h]; rfl
theorem s_asgT {ts : Tgs} {es : List Expr} {k : Nat} {p : Pos} (hk : ∀ j ∈ kp, j ∉ tgVs (.t ts)) (hg : PG X (.Tuple es k p) (gR X.K (tgVs (.t ts)) (bindT (.t ts)))) (ha : PE X x (tE X.K T W (evE G F a))) (hw : swappedStores [.Tuple es k p] x X.env = pure none) :
    PS X (.Assign [.Tuple es k p] x pos) (tSt kp X.K T W (evS G F (.asg (.t ts) a))) := by
  refine ps_imp (ps_asg (peF ha) hg ?_ hw rfl) fun D σ H h => gR_of hk h
  show swapsWith x (some (.Tuple es k p)) pos.line X.env = pure false
  cases x <;> rfl
/-- a, b = x, y with local names -/
theorem setIs_two {K : PySem.W.Frag} {FH H : Hp} {e : En} {σ : Sto} (R : Rl K FH e σ H) {i j : Nat} {d1 d2 : PyData} {v1 v2 : V} (k1 : i ∉ kp) (k2 : j ∉ kp) (r1 : DR K FH d1 v1) (r2 : DR K FH d2 v2) : AfS kp K FH e σ H FH (setIs [i, j] [d1, d2] e) ((σ.set i (some v1)).set j (some v2)) H := by
  obtain ⟨R1, S1⟩ := R.putI (i := i) r1
  obtain ⟨R2, S2⟩ := R1.putI (i := j) r2
  exact ⟨R2, S1.trans S2, fun l hl => (set_kp k2 l hl).trans (set_kp k1 l hl)⟩
theorem s_par2 {j : Nat} {nx ny : Str} {px py pt : Pos} {kt k2 : Nat} {pt2 : Pos} (k1 : i ∉ kp) (kj : j ∉ kp) (hc : X.calm = true) (hd : X.N.Nodup) (hi : X.N[i]? = some nx) (hj : X.N[j]? = some ny) (hij : i ≠ j) (hx : X.env.scope.names.lookup nx = some .local) (hy : X.env.scope.names.lookup ny = some .local)
    (ha : PA X [x, y] (tFs X.K T W (evFs G F es))) (hw : swappedStores [.Tuple [.Name nx px, .Name ny py] kt pt] (.Tuple [x, y] k2 pt2) X.env = pure (some [nx, ny])) :
    PS X (.Assign [.Tuple [.Name nx px, .Name ny py] kt pt] (.Tuple [x, y] k2 pt2) pos) (tSt kp X.K T W (evS G F (.par [i, j] es))) := by
  refine ps_imp (ps_par hc hd hi hj hij hx hy ha hw) fun D σ H ⟨FH, s, R, q⟩ => ?_
  simp only [evS] at q
  refine ⟨FH, s, R, q.bindE.imp fun FH1 s1 H1 ds _ A1 q vs r1 => ?_⟩
  obtain ⟨_, q⟩ := q
  split at q
  · next hl =>
    match ds, hl with
    | [d1, d2], _ =>
      unfold DRs at r1
      obtain ⟨v1, r, rfl, r1, r2⟩ := r1
      unfold DRs at r2
      obtain ⟨v2, r, rfl, r2, r3⟩ := r2
      have e : r = [] := by simpa [DRs] using r3
      subst e
      exact ⟨v1, v2, rfl, q FH1 _ H1 (setIs_two A1.rl k1 kj r1 r2)⟩
  · exact q.elim
theorem s_par3 {j l : Nat} {nx ny nz : Str} {px py pz pt : Pos} {kt k2 : Nat} {pt2 : Pos} (k1 : i ∉ kp) (kj : j ∉ kp) (kl : l ∉ kp) (hc : X.calm = true) (hd : X.N.Nodup) (hi : X.N[i]? = some nx) (hj : X.N[j]? = some ny) (hl : X.N[l]? = some nz) (hij : i ≠ j) (hil : i ≠ l) (hjl : j ≠ l) (hx : X.env.scope.names.lookup nx = some .local) (hy : X.env.scope.names.lookup ny = some .local) (hz : X.env.scope.names.lookup nz = some .local)
    (ha : PA X [x, y, z] (tFs X.K T W (evFs G F es))) (hw : swappedStores [.Tuple [.Name nx px, .Name ny py, .Name nz pz] kt pt] (.Tuple [x, y, z] k2 pt2) X.env = pure (some [nx, ny, nz])) :
    PS X (.Assign [.Tuple [.Name nx px, .Name ny py, .Name nz pz] kt pt] (.Tuple [x, y, z] k2 pt2) pos) (tSt kp X.K T W (evS G F (.par [i, j, l] es))) := by
  refine ps_imp (ps_par3 hc hd hi hj hl hij hil hjl hx hy hz ha hw) fun D σ H ⟨FH, s, R, q⟩ => ?_
  simp only [evS] at q
  refine ⟨FH, s, R, q.bindE.imp fun FH1 s1 H1 ds _ A1 q vs r1 => ?_⟩
  obtain ⟨_, q⟩ := q
  split at q
  · next hl =>
    match ds, hl with
    | [d1, d2, d3], _ =>
      unfold DRs at r1
      obtain ⟨v1, r, rfl, r1, r2⟩ := r1
      unfold DRs at r2
      obtain ⟨v2, r, rfl, r2, r3⟩ := r2
      unfold DRs at r3
      obtain ⟨v3, r, rfl, r3, r4⟩ := r3
      have e : r = [] := by simpa [DRs] using r4
      subst e
      obtain ⟨R1, S1⟩ := A1.rl.putI (i := i) r1
      obtain ⟨R2, S2⟩ := R1.putI (i := j) r2
      obtain ⟨R3, S3⟩ := R2.putI (i := l) r3
      exact ⟨v1, v2, v3, rfl, q FH1 _ H1 ⟨R3, (S1.trans S2).trans S3, fun m hm => ((set_kp kl m hm).trans (set_kp kj m hm)).trans (set_kp k1 m hm)⟩⟩
  · exact q.elim
end
end PV

namespace PV
open PySem PySem.Spec PyProof.Rows L2

section
variable {kp : List Nat} {X : Cx} {T : XT} {W : WX} {x y z tg : Expr} {xs : List Expr} {pos : Pos} {G : Cf} {F : CF} {a b c : E} {es : Es} {i : Nat}
theorem isOwn_some {s : En} {i : Nat} (h : isOwn s i = true) : ∃ d, s[i]? = some (some (.own d)) := by
  unfold isOwn at h
  split at h
  · next d e => exact ⟨d, e⟩
  · cases h
theorem isOwnL_some {s : En} {i : Nat} (h : isOwnL s i = true) : ∃ ds, s[i]? = some (some (.own (.list ds))) := by
  unfold isOwnL at h
  split at h
  · next d e => exact ⟨d, e⟩
  · cases h
theorem pset_or {t u : TSet} (h : PSet X t) (h' : PSet X u) : PSet X (fun o i v H Q => t o i v H Q ∨ u o i v H Q) := by
  intro pins s σ H o i v ov iv uv Q I r1 r2 r3 q
  rcases q with q | q
  · exact h pins s σ H o i v ov iv uv Q I r1 r2 r3 q
  · exact h' pins s σ H o i v ov iv uv Q I r1 r2 r3 q
theorem drk_map {K : PySem.W.Frag} {FH : Hp} (key : Key) {d : PyData} {v : V} (r : DR K FH d v) : ∀ {kvs : List (PyData × PyData)} {ks : List (Key × V)}, DRk K FH kvs ks → DRk K FH (kvs.map fun p => if keyEq p.1 (keyD key) = true then (p.1, d) else p) (ks.map fun p => if p.1 = key then (p.1, v) else p)
  | [], ks, h => by
    have e : ks = [] := by simpa [DRk] using h
    subst e; simp [DRk]
  | (k, e) :: r', ks, h => by
    unfold DRk at h
    obtain ⟨key', w, rr, rfl, rfl, r2, r3⟩ := h
    have ih := drk_map key r r3
    rw [List.map_cons, List.map_cons]
    simp only [keyEq_D]
    by_cases hk : key' = key
    · subst hk
      simp only [decide_true, if_true]
      unfold DRk
      exact ⟨key', v, _, rfl, rfl, r, ih⟩
    · simp only [hk, decide_false, Bool.false_eq_true, if_false]
      unfold DRk
      exact ⟨key', w, _, rfl, rfl, r2, ih⟩
theorem drk_app {K : PySem.W.Frag} {FH : Hp} (key : Key) {d : PyData} {v : V} (r : DR K FH d v) : ∀ {kvs : List (PyData × PyData)} {ks : List (Key × V)}, DRk K FH kvs ks → DRk K FH (kvs ++ [(keyD key, d)]) (ks ++ [(key, v)])
  | [], ks, h => by
    have e : ks = [] := by simpa [DRk] using h
    subst e
    show DRk K FH [(keyD key, d)] [(key, v)]
    unfold DRk
    exact ⟨key, v, [], rfl, rfl, r, by simp [DRk]⟩
  | (k, e) :: r', ks, h => by
    unfold DRk at h
    obtain ⟨key', w, rr, rfl, rfl, r2, r3⟩ := h
    show DRk K FH ((keyD key', e) :: (r' ++ _)) ((key', w) :: (rr ++ _))
    unfold DRk
    exact ⟨key', w, _, rfl, rfl, r2, drk_app key r r3⟩
theorem drk_put {K : PySem.W.Frag} {FH : Hp} (key : Key) {d : PyData} {v : V} (r : DR K FH d v) {kvs : List (PyData × PyData)} {ks : List (Key × V)} (h : DRk K FH kvs ks) : DRk K FH (putD kvs (keyD key) d) (putK ks key v) := by
  unfold putD putK
  rw [drk_any key h]
  split
  · exact drk_map key r h
  · exact drk_app key r h
theorem assign_sub {o i : Expr} {p : Pos} {env : Env} (h : isSlice i = false) (v : Value) : assign (.Subscript o i p) env v = (do
      let ov ← holding [v] (eval o env)
      let iv ← holding [v, ov] (eval i env)
      standAt p
      holding [v, ov, iv] (setItem ov iv v)
      release [v, ov, iv] []) := by
  cases i <;> first | rfl | cases h
theorem s_setI {n : Str} {p p2 : Pos} (hu : X.A.units + 65 < cLine) (hN : X.N[i]? = some n) (hv : Vis X.env.scope n) (hd : noDbg n = true) (ha : PE X x (tE X.K T W (evE G F a))) (hk : PE X y (tE X.K T W (evE G F b))) (hs : isSlice y = false) :
    PS X (.Assign [.Subscript (.Name n p) y p2] x pos) (tSt kp X.K T W (evS G F (.setI i b a))) := by
  have pn : PE X (.Name n p) (tVar i) := pe_var hN hv (noDbg_ok hd).1 (noDbg_ok hd).2
  refine ps_imp (ps_asg (peF ha) (pg_sub pn (peA hk) (pset_or set_list (set_dict (by omega))) (assign_sub hs)) (by show swapsWith x (some (.Subscript (.Name n p) y p2)) pos.line X.env = pure false; cases x <;> rfl) swap_sub rfl) fun D σ H ⟨FH, s, R, q⟩ => ?_
  simp only [evS] at q
  refine ⟨FH, s, R, q.bindE.imp fun FH1 s1 H1 d _ A1 q v r1 => ?_⟩
  obtain ⟨_, q⟩ := q
  split at q
  · next how =>
    obtain ⟨d0, h0⟩ := isOwn_some how
    obtain ⟨p, o0, e0, _⟩ := A1.rl.mineSome h0 rfl
    refine ⟨.ref p, e0, FH1, s1, A1.rl, q.bindE.imp fun FH2 s2 H2 y _ A2 q u r2 => ?_⟩
    obtain ⟨_, q⟩ := q
    have r1' := DR.mono A2.st.fle _ _ r1
    split at q
    · next ds n hi hy =>
      obtain ⟨p', e1, _⟩ := A2.rl.mineSome hi rfl
      split at q
      · next j hj =>
        obtain ⟨p', o, e1, ho, nn, t⟩ := A2.rl.mineSome hi rfl
        rw [e0] at e1; cases e1
        obtain ⟨xs, hx, dr⟩ := t
        rw [hx] at ho; cases ho
        have e2 := r2.rd A2.rl hy
        refine .inl ⟨p, xs, n, j, rfl, e2, hx, by rw [← dr.len]; exact hj, ?_⟩
        obtain ⟨R3, S3⟩ := A2.rl.write (d' := .list (ds.set j d)) (o' := .lst (xs.set j v)) hi e0 ⟨_, upd_same, dr.set j r1'⟩
        exact q FH2 σ _ ⟨R3, S3, fun _ _ => rfl⟩
      · exact q.elim
    · next kvs key hi hy =>
      split at q
      · next hk =>
        obtain ⟨p', o, e1, ho, nn, t⟩ := A2.rl.mineSome hi rfl
        rw [e0] at e1; cases e1
        obtain ⟨ks, hx, dr⟩ := t
        rw [hx] at ho; cases ho
        obtain ⟨kk, ek, ed⟩ := key_of hk.1 (r2.rd A2.rl hy)
        subst ek ed
        refine .inr ⟨p, upd H2 p (.dK (putK ks kk v)), rfl, DPut.k hx (by rw [← dr.len]; exact hk.2), ?_⟩
        obtain ⟨R3, S3⟩ := A2.rl.write (d' := .dict (putD kvs (keyD kk) d)) (o' := .dK (putK ks kk v)) hi e0 ⟨_, upd_same, drk_put kk r1' dr⟩
        exact q FH2 σ _ ⟨R3, S3, fun _ _ => rfl⟩
      · exact q.elim
    · exact q.elim
  · exact q.elim
theorem s_app {n : Str} {p apos cpos : Pos} (hN : X.N[i]? = some n) (hv : Vis X.env.scope n) (hd : noDbg n = true) (ha : PE X x (tE X.K T W (evE G F a))) (hs : isStar x = false) (hl : (apos.endLine == cpos.line) = true) :
    PS X (.Expr (.Call (.Attribute (.Name n p) "append" apos) [x] [] cpos) pos) (tSt kp X.K T W (evS G F (.app i a))) := by
  have pn : PE X (.Name n p) (tVar i) := pe_var hN hv (noDbg_ok hd).1 (noDbg_ok hd).2
  have hst := star_cons (es := []) (env := X.env) hs
  refine ps_imp (ps_expr (pe_bm PySem.F.plainAttrs_list PySem.F.slot_list_append PySem.F.type_list_append mt_append pn (pa_cons (peF ha) pa_nil hst) rfl (by rw [hst]; rfl) hl hst rfl) rfl) fun D σ H ⟨FH, s, R, q⟩ => ?_
  simp only [evS] at q
  split at q
  · next how =>
    obtain ⟨d0, h0⟩ := isOwnL_some how
    obtain ⟨p, o0, e0, ho0, _, zs, hz, _⟩ := R.mineSome h0 rfl
    refine ⟨.ref p, e0, ?_, FH, s, R, q.bindE.imp fun FH1 s1 H1 d _ A1 q v r1 => ?_⟩
    · exact Or.inl ⟨rfl, _, .inl (.inl hz)⟩
    · obtain ⟨_, q⟩ := q
      split at q
      · next ds hi =>
        split at q
        · next hlen =>
          obtain ⟨p', o, e1, ho, nn, t⟩ := A1.rl.mineSome hi rfl
          rw [e0] at e1; cases e1
          obtain ⟨xs, hx, dr⟩ := t
          rw [hx] at ho; cases ho
          obtain ⟨R3, S3⟩ := A1.rl.write (d' := .list (ds ++ [d])) (o' := .lst (xs ++ [v])) hi e0 ⟨_, upd_same, dr.append (.one r1)⟩
          exact ⟨p, xs, v, rfl, rfl, hx, by rw [← dr.len]; exact hlen, q FH1 σ _ ⟨R3, S3, fun _ _ => rfl⟩⟩
        · exact q.elim
      · exact q.elim
  · exact q.elim
theorem s_ret (ha : PE X x (tE X.K T W (evE G F a))) : PS X (.Return (some x) pos) (tSt kp X.K T W (evS G F (.ret a))) := by
  refine ps_imp (ps_ret ha) fun D σ H ⟨FH, s, R, q⟩ => ?_
  simp only [evS] at q
  exact ⟨FH, s, R, q.bindE.imp fun FH1 s1 H1 v _ A1 q u r1 => q.2 FH1 σ H1 (.refl A1.rl) u r1⟩
theorem s_retN : PS X (.Return none pos) (tSt kp X.K T W (evS G F .retN)) :=
  ps_imp ps_retN fun D σ H ⟨FH, s, R, q⟩ => q FH σ H (.refl R) .non (by show DR _ _ _ _; unfold DR; rfl)
theorem s_ex (ha : PE X x (tE X.K T W (evE G F a))) (hc : isComp x = false) : PS X (.Expr x pos) (tSt kp X.K T W (evS G F (.ex a))) := by
  refine ps_imp (ps_expr ha (swaps_none hc)) fun D σ H ⟨FH, s, R, q⟩ => ?_
  simp only [evS] at q
  exact ⟨FH, s, R, q.bindE.imp fun FH1 s1 H1 v _ A1 q u r1 => q.2 FH1 σ H1 (.refl A1.rl)⟩
theorem s_pass : PS X (.Pass pos) (tSt kp X.K T W (evS G F .pass)) := ps_imp ps_pass fun D σ H ⟨FH, s, R, q⟩ => q FH σ H (.refl R)
theorem s_brk : PS X (.Break pos) (tSt kp X.K T W (evS G F .brk)) := ps_imp ps_break fun D σ H ⟨FH, s, R, q⟩ => q FH σ H (.refl R)
theorem s_cont : PS X (.Continue pos) (tSt kp X.K T W (evS G F .cont)) := ps_imp ps_continue fun D σ H ⟨FH, s, R, q⟩ => q FH σ H (.refl R)
theorem ss_nil : PSs X [] (tSt kp X.K T W (evSs G F .nil)) := pss_imp pss_nil fun D σ H ⟨FH, s, R, q⟩ => q FH σ H (.refl R)
theorem ss_cons {st : Stmt} {sts : List Stmt} {s0 : S} {r : Ss} (h1 : PS X st (tSt kp X.K T W (evS G F s0))) (h2 : PSs X sts (tSt kp X.K T W (evSs G F r))) : PSs X (st :: sts) (tSt kp X.K T W (evSs G F (.cons s0 r))) := by
  refine pss_imp (pss_cons h1 h2) fun D σ H ⟨FH, s, R, q⟩ => ?_
  simp only [evSs] at q
  refine ⟨FH, s, R, q.bindS.imp fun FH1 s1 σ1 H1 f _ A1 q => ?_⟩
  obtain ⟨_, q⟩ := q
  cases f with
  | nx => exact ⟨FH1, s1, A1.rl, q.imp fun _ _ _ _ _ _ _ z => z.from A1.st.aloc⟩
  | bk => exact q FH1 σ1 H1 (.refl A1.rl)
  | ct => exact q FH1 σ1 H1 (.refl A1.rl)
  | rt v => exact q FH1 σ1 H1 (.refl A1.rl)
theorem s_ife {as bs : List Stmt} {s1 s2 : Ss} (hc : PT X x (tQ X.K T W (tests (evE G F c)))) (ha : PSs X as (tSt kp X.K T W (evSs G F s1))) (hb : PSs X bs (tSt kp X.K T W (evSs G F s2))) : PS X (.If x as bs pos) (tSt kp X.K T W (evS G F (.ife c s1 s2))) := by
  refine ps_imp (ps_if hc ha hb) fun D σ H ⟨FH, s, R, q⟩ => ?_
  simp only [evS] at q
  refine ⟨FH, s, R, q.bindE.imp fun FH1 e1 H1 k _ A1 q => ?_⟩
  obtain ⟨_, q⟩ := q
  cases k with
  | true => exact ⟨FH1, e1, A1.rl, PostS.imp q fun _ _ _ _ _ _ _ z => z.from A1.st.aloc⟩
  | false => exact ⟨FH1, e1, A1.rl, PostS.imp q fun _ _ _ _ _ _ _ z => z.from A1.st.aloc⟩
theorem PostS.shift {K : PySem.W.Frag} {FH H FH1 H1 : Hp} {s s1 : En} {σ σ1 : Sto} {P : Hp → En → Sto → Hp → Fl → Prop} {o : Out Fl} (A : AfS kp K FH s σ H FH1 s1 σ1 H1) (h : PostS kp K T W FH s σ H P o) : PostS kp K T W FH1 s1 σ1 H1 P o := by
  cases o with
  | stuck => exact h
  | ok f s' => exact fun FH' σ' H' A' => h FH' σ' H' (A.trans A')
  | exc x s' => exact fun FH' σ' H' cls d A' ex => h FH' σ' H' cls d (A.trans A') ex
/-! ### loops -/
theorem s_whl {body : List Stmt} {sb : Ss} (hp : PassesOwn (model X.prog X.w) X.A X.env X.xe) (hc : PT X x (tQ X.K T W (tests (evE G F c)))) (hb : PSs X body (tSt kp X.K T W (evSs G F sb))) : PS X (.While x body [] pos) (tSt kp X.K T W (evS G F (.whl c sb))) := by
  refine ps_imp (ps_while hp hc hb) fun D σ H ⟨FH, s, R, q⟩ => ?_
  simp only [evS] at q
  refine ⟨fun m σ' H' => ∃ FH' s', Rl X.K FH' s' σ' H' ∧ (∀ p, H' p = none → H p = none) ∧ PostS kp X.K T W FH' s' σ' H' (EndR X.K H D) (whlLoop (tests (evE G F c)) (evSs G F sb) m s'), ⟨G.wf, FH, s, R, fun _ h => h, q⟩, ?_⟩
  rintro m σ1 H1 ⟨FH1, s1, R1, al, q1⟩
  cases m with
  | zero => exact q1.elim
  | succ m =>
    simp only [whlLoop] at q1
    refine ⟨FH1, s1, R1, q1.bindE.imp fun FH2 s2 H2 k _ A2 q2 => ?_⟩
    obtain ⟨_, q2⟩ := q2
    have al2 : ∀ p, H2 p = none → H p = none := fun p h => al p (A2.st.aloc p h)
    cases k with
    | false => exact q2 FH2 σ1 H2 (.refl A2.rl)
    | true =>
      simp only [if_true] at q2 ⊢
      refine ⟨fun σ' H' => ∃ FH' s', Rl X.K FH' s' σ' H' ∧ (∀ p, H' p = none → H p = none) ∧ PostS kp X.K T W FH' s' σ' H' (EndR X.K H D) (whlLoop (tests (evE G F c)) (evSs G F sb) m s'), fun σ' H' p' => ⟨m, Nat.lt_succ_self _, p'⟩, FH2, s2, A2.rl, q2.bindS.imp fun FH3 s3 σ3 H3 f _ A3 q3 => ?_⟩
      obtain ⟨_, q3⟩ := q3
      have al3 : ∀ p, H3 p = none → H p = none := fun p h => al2 p (A3.st.aloc p h)
      cases f with
      | nx => exact ⟨FH3, s3, A3.rl, al3, q3⟩
      | ct => exact ⟨FH3, s3, A3.rl, al3, q3⟩
      | bk => exact q3 FH3 σ3 H3 (.refl A3.rl)
      | rt v => exact (EndR.from (D := D) al2 (q3 FH3 σ3 H3 (.refl A3.rl)) : _)
theorem s_for {t : Tg} {it : It} {iter : Expr} {body : List Stmt} {sb : Ss} (hk : ∀ j ∈ kp, j ∉ tgVs t) (hp : PassesOwn (model X.prog X.w) X.A X.env X.xe) (hc : X.calm = true) (hi : PI X tg iter (iR X.K T W it.isRng (evI G F it))) (hg : PG X tg (gR X.K (tgVs t) (bindT t))) (hb : PSs X body (tSt kp X.K T W (evSs G F sb))) (hs : isSet iter = false) :
    PS X (.For tg iter body [] pos) (tSt kp X.K T W (evS G F (.for t it sb))) := by
  refine ps_imp (ps_for hp hc hi hg hb (fold_ok hs)) fun D σ H ⟨FH, s, R, q⟩ => ?_
  simp only [evS] at q
  refine ⟨FH, s, R, q.bindE.imp fun FH1 s1 H1 p _ A1 q J as wk st _ => ?_⟩
  obtain ⟨_, q⟩ := q
  generalize hL : lokI s1 p.2 = L at q st
  have hLo : ∀ i ∈ L, ∃ d, s1[i]? = some (some (.own d)) := fun j hj => lokI_own (vs := p.2) j (by rw [hL]; exact hj)
  -- the loop from the locked state
  have q0 : PostS kp X.K T W FH1 (locks s1 L) σ H1 (fun FH' s' σ' H' f => EndR X.K H D FH' (unlocks s' L) σ' H' f) (forLoop (bindT t) (evSs G F sb) p.1 (locks s1 L)) := by
    generalize forLoop (bindT t) (evSs G F sb) p.1 (locks s1 L) = o at q
    cases o with
    | stuck => exact q.elim
    | ok f s' => exact fun FH' σ' H' A => q FH' σ' H' ⟨A.rl.unlock L, A.st.loop hLo, A.kp⟩
    | exc e s' => exact fun FH' σ' H' cls d A ex => q FH' σ' H' cls d ⟨A.rl.unlock L, A.st.loop hLo, A.kp⟩ ex
  have RL : Rl X.K FH1 (locks s1 L) σ H1 := A1.rl.lock L
  let Lp : Nat → Sto → Hp → Prop := fun i σ' H' => ∃ FHi ei, Rl X.K FHi ei σ' H' ∧ Stp FH1 (locks s1 L) σ H1 FHi ei σ' H' ∧ PostS kp X.K T W FHi ei σ' H' (fun FH' s' σ' H' f => EndR X.K H D FH' (unlocks s' L) σ' H' f) (forLoop (bindT t) (evSs G F sb) (p.1.drop i) ei)
  refine ⟨fun i m σ' H' => m = p.1.length - i ∧ i ≤ p.1.length ∧ Lp i σ' H', ⟨p.1.length, rfl, Nat.zero_le _, FH1, locks s1 L, RL, .refl .., by rw [List.drop_zero]; exact q0⟩, ?_⟩
  rintro i m σ2 H2 ⟨rfl, hi, FHi, ei, Ri, Si, qi⟩
  have stand : ∀ q ∈ as, H2 q.1 = some q.2 := fun q hq => Si.keep _ _ (st q hq).1 (st q hq).2
  have subi : Same FH1 H2 := fun b u h => Ri.sub _ _ (Si.fle _ _ h)
  have ali : ∀ p, H2 p = none → H p = none := fun p h => A1.st.aloc p (Si.aloc p h)
  by_cases hlt : i < p.1.length
  · refine .inr ⟨wk.go i H2 stand subi hlt, Lp (i + 1), fun σ' H' p' => ⟨p.1.length - (i + 1), by omega, rfl, hlt, p'⟩, fun v H3 y => ?_⟩
    obtain ⟨d, hd⟩ : ∃ d, p.1[i]? = some d := ⟨_, List.getElem?_eq_getElem hlt⟩
    have ro := wk.yld i H2 v H3 d stand subi hd y
    have ro' : ResOk X.K FHi H2 (.imm d) v H3 := by
      rcases ro with ⟨h1, h2⟩ | ⟨tp, cs, xs, h1, h2, h3, h4, h5⟩
      · exact .inl ⟨h1, DR.mono Si.fle _ _ h2⟩
      · exact .inr ⟨tp, cs, xs, h1, h2, h3, h4, DRs.mono Si.fle _ _ h5⟩
    obtain ⟨FH3, A3, vr⟩ := res_after Ri ro'
    have hde : p.1[i] = d := by rw [List.getElem?_eq_getElem hlt] at hd; exact Option.some.inj hd
    rw [List.drop_eq_getElem_cons hlt, hde] at qi
    simp only [forLoop] at qi
    cases hb' : bindT t d ei with
    | none => rw [hb'] at qi; exact qi.elim
    | some e1 =>
      rw [hb'] at qi
      refine ⟨FH3, ei, d, e1, A3.rl, vr, hb', fun σ4 R4 S4 O4 => ?_⟩
      have A4 : AfS kp X.K FHi ei σ2 H2 FH3 e1 σ4 H3 := ⟨R4, A3.st.trans S4, fun j hj => O4.2 j (hk j hj)⟩
      refine ⟨FH3, e1, R4, (PostS.shift A4 qi).bindS.imp fun FH5 e5 σ5 H5 f _ A5 q5 => ?_⟩
      obtain ⟨_, q5⟩ := q5
      have S5 : Stp FH1 (locks s1 L) σ H1 FH5 e5 σ5 H5 := Si.trans (A4.trans A5).st
      have al3 : ∀ p, H3 p = none → H p = none := fun p h => ali p (A4.st.aloc p h)
      cases f with
      | nx => exact ⟨FH5, e5, A5.rl, S5, q5⟩
      | ct => exact ⟨FH5, e5, A5.rl, S5, q5⟩
      | bk => exact q5 FH5 σ5 H5 (.refl A5.rl)
      | rt w =>
        intro u ru
        refine q5 FH5 σ5 H5 (.refl A5.rl) u ?_
        cases w with
        | imm d => exact ru
        | vr j => exact ru
        | fresh d =>
          obtain ⟨pp, ev, n, np, t, ns⟩ := ru
          exact ⟨pp, ev, n, al3 pp np, t, fun j sl h1 hm h2 => by
            obtain ⟨k, t, k1, k2, k3⟩ := mineAt_unlock (L := L) ⟨j, sl, h1, hm, h2⟩
            exact ns k t k1 k2 k3⟩
  · have e : i = p.1.length := by omega
    subst e
    refine .inl ⟨wk.stop H2 stand subi, ?_⟩
    rw [List.drop_length] at qi
    exact qi FHi σ2 H2 (.refl Ri)
end
end PV

namespace PV
open PySem PySem.Spec PyProof.Rows L2

/-! ### the checker of statements -/
def nameOf : Expr → Option (Str × Pos)
  | .Name n p => some (n, p)
  | _ => none
def isLc : E → Bool
  | .lc .. => true
  | _ => false
/-- how a tuple's stores are done: one behind another -/
def plainPair (sc : Scope) (t v : Expr) : Bool := match t, v with
  | .Tuple ts _ _, .Tuple vs _ _ => !(vs.any isStar) && ((((!(ts.length == 2 || ts.length == 3) || vs.length != ts.length) || (swapNames sc ts).length != ts.length)) || vs.all (foldedForSure 8))
  | _, _ => !isTuple v
def lookLocal (sc : Scope) (n : Str) : Bool := decide (sc.names.lookup n = some .local)
mutual
def chkS (D : Ck) (N : List Str) (sc : Scope) (kp : List Nat) : S → Stmt → Bool
  | .asg tg e, st => match st with
    | .Assign ts v _ => match ts with
      | [t] => match tg with
        | .v i => match nameOf t with
          | some (n, p) => decide (N[i]? = some n) && locB true sc n && !kp.contains i && chkE D N sc e v && (!swB sc n p v || isLc e)
          | none => false
        | .t us => chkG true N sc (.t us) t && (kp.all fun j => !(tgVs (.t us)).contains j) && chkE D N sc e v && plainPair sc t v
      | _ => false
    | _ => false
  | .par is es, st => match st with
    | .Assign ts v _ => match ts, v with
      | [.Tuple us _ _], .Tuple vs _ _ => chkEs D N sc es vs && foldAll vs && (match is, us, vs with
        | [i, j], [t1, t2], [_, _] => match nameOf t1, nameOf t2 with
          | some (a, _), some (b, _) => decide (N[i]? = some a) && decide (N[j]? = some b) && decide (i ≠ j) && lookLocal sc a && lookLocal sc b && !kp.contains i && !kp.contains j && decide (swapNames sc us = [a, b]) && decide ([a, b].eraseDups.length = 2)
          | _, _ => false
        | [i, j, l], [t1, t2, t3], [_, _, _] => match nameOf t1, nameOf t2, nameOf t3 with
          | some (a, _), some (b, _), some (c, _) => decide (N[i]? = some a) && decide (N[j]? = some b) && decide (N[l]? = some c) && decide (i ≠ j) && decide (i ≠ l) && decide (j ≠ l) && lookLocal sc a && lookLocal sc b && lookLocal sc c && !kp.contains i && !kp.contains j && !kp.contains l &&
              decide (swapNames sc us = [a, b, c]) && decide ([a, b, c].eraseDups.length = 3)
          | _, _, _ => false
        | _, _, _ => false)
      | _, _ => false
    | _ => false
  | .setI i k e, st => match st with
    | .Assign ts v _ => match ts with
      | [.Subscript o y _] => match nameOf o with
        | some (n, _) => decide (N[i]? = some n) && visB sc n && noDbg n && !isSlice y && chkE D N sc e v && chkE D N sc k y
        | none => false
      | _ => false
    | _ => false
  | .app i e, st => match st with
    | .Expr (.Call f xs kws cp) _ => match method f, xs with
      | some (o, m, ap), [x] => match nameOf o with
        | some (n, _) => decide (N[i]? = some n) && visB sc n && noDbg n && decide (m = ("append" : Str)) && kws.isEmpty && !isStar x && (ap.endLine == cp.line) && chkE D N sc e x
        | none => false
      | _, _ => false
    | _ => false
  | .ret e, st => match st with
    | .Return (some x) _ => chkE D N sc e x
    | _ => false
  | .retN, st => match st with
    | .Return none _ => true
    | _ => false
  | .ex e, st => match st with
    | .Expr x _ => chkE D N sc e x && !isComp x
    | _ => false
  | .ife c a b, st => match st with
    | .If x as bs _ => chkE D N sc c x && chkSs D N sc kp a as && chkSs D N sc kp b bs
    | _ => false
  | .for tg it b, st => match st with
    | .For t x bs els _ => els.isEmpty && !isSet x && chkG true N sc tg t && (kp.all fun j => !(tgVs tg).contains j) && chkI D N sc it t x && chkSs D N sc kp b bs
    | _ => false
  | .whl c b, st => match st with
    | .While x bs els _ => els.isEmpty && chkE D N sc c x && chkSs D N sc kp b bs
    | _ => false
  | .pass, st => match st with
    | .Pass _ => true
    | _ => false
  | .brk, st => match st with
    | .Break _ => true
    | _ => false
  | .cont, st => match st with
    | .Continue _ => true
    | _ => false
def chkSs (D : Ck) (N : List Str) (sc : Scope) (kp : List Nat) : Ss → List Stmt → Bool
  | .nil, xs => xs.isEmpty
  | .cons s r, xs => match xs with
    | x :: xs => chkS D N sc kp s x && chkSs D N sc kp r xs
    | [] => false
end
theorem nameOf_some {x : Expr} {n : Str} {p : Pos} (h : nameOf x = some (n, p)) : x = .Name n p := by
  cases x with
  | Name a b => cases h; rfl
  | _ => cases h
theorem plainPair_ok {env : Env} {t v : Expr} {es : List Expr} {k : Nat} {p : Pos} (ht : t = .Tuple es k p) (h : plainPair env.scope t v = true) : swappedStores [t] v env = pure none := by
  subst ht
  cases v with
  | Tuple vs k2 p2 =>
    simp only [plainPair, Bool.and_eq_true, Bool.not_eq_true'] at h
    obtain ⟨h1, h2⟩ := h
    rcases Bool.or_eq_true_iff.mp h2 with z | z
    · exact swap_none h1 z
    · exact swap_fold h1 z
  | _ => exact swap_other rfl
theorem kp_tg {kp vs : List Nat} (h : (kp.all fun j => !vs.contains j) = true) : ∀ j ∈ kp, j ∉ vs := fun j hj hv => by
  have := List.all_eq_true.mp h j hj
  simp [hv] at this
theorem not_kp {kp : List Nat} {i : Nat} (h : kp.contains i = false) : i ∉ kp := by simpa using h
theorem chkG_tuple {dfn : Bool} {N : List Str} {sc : Scope} {us : Tgs} {t : Expr} (h : chkG dfn N sc (.t us) t = true) : ∃ es k p, t = .Tuple es k p := by
  cases t with
  | Tuple es k p => exact ⟨es, k, p, rfl⟩
  | _ => simp [chkG] at h
section
variable {X : Cx} {T : XT} {W : WX} {G : Cf} {F : CF} {D : Ck} {lv : Nat} {N : List Str} {sc : Scope} {kp : List Nat}
theorem swB_lc {sc : Scope} {n : Str} {p : Pos} {v : Expr} {D : Ck} {N : List Str} {e : E} (h1 : swB sc n p v = true) (h2 : isLc e = true) (h3 : chkE D N sc e v = true) :
    ∃ elt tg it c own y t iter ifs scope q, e = .lc elt tg it c own ∧ v = .ListComp y [⟨t, iter, ifs, 0⟩] scope q ∧ sc.names.lookup n = some .local ∧ (p.line == q.line) = true ∧ (scope.names.any fun (m, k) => m == n && (k == .local || k == .cell)) = false ∧
      blkC N sc scope (own.map fun i => (N.getD i "", i)) = true ∧ ((tgVs tg).all fun i => own.contains i) = true ∧ chkG false N (relS scope sc) tg t = true ∧ isSet iter = false ∧ chkI D N sc it t iter = true ∧ chkT D N (relS scope sc) c ifs = true ∧ chkE D N (relS scope sc) elt y = true := by
  cases e with
  | lc elt tg it c own =>
    cases v with
    | ListComp y gens scope q =>
      simp only [chkE] at h3
      split at h3
      · next t iter ifs as =>
        simp only [Bool.and_eq_true, decide_eq_true_eq, Bool.not_eq_true'] at h3
        obtain ⟨⟨⟨⟨⟨⟨⟨g0, g1⟩, g2⟩, g3⟩, g4⟩, g5⟩, g6⟩, g7⟩ := h3
        subst g0
        simp only [swB, Bool.and_eq_true, decide_eq_true_eq, Bool.not_eq_true'] at h1
        exact ⟨elt, tg, it, c, own, y, t, iter, ifs, scope, q, rfl, rfl, h1.1.1, h1.1.2, h1.2, g1, g2, g3, g4, g5, g6, g7⟩
      · cases h3
    | _ => simp [chkE] at h3
  | _ => cases h2
mutual
theorem okS (g : Good X T W G F D lv true N sc) (hk : sc.kind = .function) (hp : PassesOwn (model X.prog X.w) X.A X.env X.xe) : ∀ (s : S) (st : Stmt), chkS D N sc kp s st = true → PS X st (tSt kp X.K T W (evS G F s))
  | .asg (.v i) e, st, h => by
    cases st with
    | Assign ts v pos =>
      simp only [chkS] at h
      split at h
      · next t =>
        split at h
        · next n p en =>
          have et := nameOf_some en
          subst et
          simp only [Bool.and_eq_true, decide_eq_true_eq, Bool.not_eq_true'] at h
          obtain ⟨⟨⟨⟨h1, h2⟩, h3⟩, h4⟩, h5⟩ := h
          obtain ⟨l1, l2⟩ := locB_ok h2 g.scp g.fc
          cases hsw : swB sc n p v with
          | false => exact s_asgV (not_kp h3) (by rw [g.nm]; exact h1) (by rw [g.nm]; exact g.nod) l1 l2 (okE e g v h4).1 (by rw [g.scp]; exact hsw)
          | true =>
            rw [hsw] at h5
            obtain ⟨elt, tg, it, c, own, y, t, iter, ifs, scope, q, rfl, rfl, k1, k2, k3, b1, b2, b3, b4, b5, b6, b7⟩ := swB_lc hsw (by simpa using h5) h4
            have ow : (own.map fun i => (N.getD i "", i)).map (·.2) = own := by
              rw [List.map_map]
              exact List.map_id own
            have := ps_setLc (g := gR X.K (tgVs tg) (bindT tg)) (tt := tQ X.K T noW (evT G F c)) (te := tF X.K T noW (frz (evE G F elt))) (spos := pos) (py := p) (pos := q) (own := own.map fun i => (N.getD i "", i)) g.calm (by rw [g.nm]; exact g.nod) (i := i) (y := n) (by rw [g.nm]; exact h1) (by rw [g.scp]; exact k1)
              (sw_true (by rw [g.scp]; exact hk) (by rw [g.scp]; exact k1) k2 k3) (okI it g t iter b5) (by rw [g.nm, g.scp]; exact blkOk_by b1)
              (fun s H C cl fp => chkG_ok (dfn := false) (X := X.blk s H scope (compEnvC scope cl C X.env) fp) g.nm g.nod g.calm (g.blk scope s H C cl fp).scp (fun z => nomatch z) tg t b3)
              (fun s H C cl fp => okT c (g.blk scope s H C cl fp) ifs b6) (fun s H C cl fp => peF (okE elt (g.blk scope s H C cl fp) y b7).1) (fold_ok b4)
            rw [ow] at this
            exact ps_imp this fun D σ H h => tLc_of b2 (gName_of (not_kp h3) h)
        · cases h
      · cases h
    | _ => simp [chkS] at h
  | .asg (.t us) e, st, h => by
    cases st with
    | Assign ts v pos =>
      simp only [chkS] at h
      split at h
      · next t =>
        simp only [Bool.and_eq_true] at h
        obtain ⟨⟨⟨h1, h2⟩, h3⟩, h4⟩ := h
        have pg := chkG_ok (X := X) g.nm g.nod g.calm g.scp g.fc (.t us) t h1
        obtain ⟨es, k, p, rfl⟩ := chkG_tuple h1
        exact s_asgT (kp_tg h2) pg (okE e g v h3).1 (plainPair_ok rfl (by rw [g.scp]; exact h4))
      · cases h
    | _ => simp [chkS] at h
  | .par is es, st, h => by
    cases st with
    | Assign ts v pos =>
      simp only [chkS] at h
      split at h
      · next us k p vs k2 p2 =>
        simp only [Bool.and_eq_true] at h
        obtain ⟨⟨h1, h2⟩, h3⟩ := h
        have pa := (okEs es g vs h1).2
        have hstar : vs.any isStar = false := by
          have := Es_star h1
          rw [List.any_eq_false]
          intro z hz
          have := List.all_eq_true.mp this z hz
          simpa using this
        have hN : X.N.Nodup := by rw [g.nm]; exact g.nod
        have hk' : X.env.scope.kind = .function := by rw [g.scp]; exact hk
        split at h3
        · next i j t1 t2 y1 y2 =>
          split at h3
          · next a pa' b pb e1 e2 =>
            have q1 := nameOf_some e1
            have q2 := nameOf_some e2
            subst q1 q2
            simp only [Bool.and_eq_true, decide_eq_true_eq, Bool.not_eq_true', lookLocal] at h3
            obtain ⟨⟨⟨⟨⟨⟨⟨⟨a1, a2⟩, a3⟩, a4⟩, a5⟩, a6⟩, a7⟩, a8⟩, a9⟩ := h3
            exact s_par2 (not_kp a6) (not_kp a7) g.calm hN (by rw [g.nm]; exact a1) (by rw [g.nm]; exact a2) a3 (by rw [g.scp]; exact a4) (by rw [g.scp]; exact a5) pa
              (swap_some hk' (.inl rfl) rfl hstar (by rw [g.scp]; exact a8) rfl a9 h2)
          · cases h3
        · next i j l t1 t2 t3 y1 y2 y3 =>
          split at h3
          · next a pa' b pb c pc e1 e2 e3 =>
            have q1 := nameOf_some e1
            have q2 := nameOf_some e2
            have q3 := nameOf_some e3
            subst q1 q2 q3
            simp only [Bool.and_eq_true, decide_eq_true_eq, Bool.not_eq_true', lookLocal] at h3
            obtain ⟨⟨⟨⟨⟨⟨⟨⟨⟨⟨⟨⟨⟨a1, a2⟩, a3⟩, a4⟩, a5⟩, a6⟩, a7⟩, a8⟩, a9⟩, b1⟩, b2⟩, b3⟩, b4⟩, b5⟩ := h3
            exact s_par3 (not_kp b1) (not_kp b2) (not_kp b3) g.calm hN (by rw [g.nm]; exact a1) (by rw [g.nm]; exact a2) (by rw [g.nm]; exact a3) a4 a5 a6 (by rw [g.scp]; exact a7) (by rw [g.scp]; exact a8) (by rw [g.scp]; exact a9) pa
              (swap_some hk' (.inr rfl) rfl hstar (by rw [g.scp]; exact b4) rfl b5 h2)
          · cases h3
        · cases h3
      · cases h
    | _ => simp [chkS] at h
  | .setI i k e, st, h => by
    cases st with
    | Assign ts v pos =>
      simp only [chkS] at h
      split at h
      · next o y p2 =>
        split at h
        · next n p en =>
          have et := nameOf_some en
          subst et
          simp only [Bool.and_eq_true, decide_eq_true_eq, Bool.not_eq_true'] at h
          obtain ⟨⟨⟨⟨⟨h1, h2⟩, h3⟩, h4⟩, h5⟩, h6⟩ := h
          exact s_setI g.un (by rw [g.nm]; exact h1) (by rw [g.scp]; exact visB_ok h2) h3 (okE e g v h5).1 (okE k g y h6).1 h4
        · cases h
      · cases h
    | _ => simp [chkS] at h
  | .app i e, st, h => by
    cases st with
    | Expr c pos =>
      cases c with
      | Call f xs kws cp =>
        simp only [chkS] at h
        split at h
        · next o m ap x e1 =>
          split at h
          · next n p en =>
            have et := nameOf_some en
            subst et
            have ef := method_some e1
            subst ef
            simp only [Bool.and_eq_true, decide_eq_true_eq, Bool.not_eq_true', List.isEmpty_iff] at h
            obtain ⟨⟨⟨⟨⟨⟨⟨h1, h2⟩, h3⟩, h4⟩, h5⟩, h6⟩, h7⟩, h8⟩ := h
            subst h4 h5
            exact s_app (by rw [g.nm]; exact h1) (by rw [g.scp]; exact visB_ok h2) h3 (okE e g x h8).1 h6 h7
          · cases h
        · cases h
      | _ => simp [chkS] at h
    | _ => simp [chkS] at h
  | .ret e, st, h => by
    cases st with
    | Return v pos =>
      cases v with
      | some x =>
        simp only [chkS] at h
        exact s_ret (okE e g x h).1
      | none => simp [chkS] at h
    | _ => simp [chkS] at h
  | .retN, st, h => by
    cases st with
    | Return v pos =>
      cases v with
      | some x => simp [chkS] at h
      | none => exact s_retN
    | _ => simp [chkS] at h
  | .ex e, st, h => by
    cases st with
    | Expr x pos =>
      simp only [chkS, Bool.and_eq_true, Bool.not_eq_true'] at h
      exact s_ex (okE e g x h.1).1 h.2
    | _ => simp [chkS] at h
  | .ife c a b, st, h => by
    cases st with
    | If x as bs pos =>
      simp only [chkS, Bool.and_eq_true] at h
      exact s_ife (okE c g x h.1.1).2 (okSs g hk hp a as h.1.2) (okSs g hk hp b bs h.2)
    | _ => simp [chkS] at h
  | .for tg it b, st, h => by
    cases st with
    | For t x bs els pos =>
      simp only [chkS, Bool.and_eq_true, Bool.not_eq_true', List.isEmpty_iff] at h
      obtain ⟨⟨⟨⟨⟨h1, h2⟩, h3⟩, h4⟩, h5⟩, h6⟩ := h
      subst h1
      exact s_for (kp_tg h4) hp g.calm (okI it g t x h5) (chkG_ok g.nm g.nod g.calm g.scp g.fc tg t h3) (okSs g hk hp b bs h6) h2
    | _ => simp [chkS] at h
  | .whl c b, st, h => by
    cases st with
    | While x bs els pos =>
      simp only [chkS, Bool.and_eq_true, List.isEmpty_iff] at h
      obtain ⟨⟨h1, h2⟩, h3⟩ := h
      subst h1
      exact s_whl hp (okE c g x h2).2 (okSs g hk hp b bs h3)
    | _ => simp [chkS] at h
  | .pass, st, h => by
    cases st with
    | Pass pos => exact s_pass
    | _ => simp [chkS] at h
  | .brk, st, h => by
    cases st with
    | Break pos => exact s_brk
    | _ => simp [chkS] at h
  | .cont, st, h => by
    cases st with
    | Continue pos => exact s_cont
    | _ => simp [chkS] at h
theorem okSs (g : Good X T W G F D lv true N sc) (hk : sc.kind = .function) (hp : PassesOwn (model X.prog X.w) X.A X.env X.xe) : ∀ (s : Ss) (sts : List Stmt), chkSs D N sc kp s sts = true → PSs X sts (tSt kp X.K T W (evSs G F s))
  | .nil, sts, h => by
    have e : sts = [] := by simpa [chkSs] using h
    subst e
    exact ss_nil
  | .cons s r, [], h => by simp [chkSs] at h
  | .cons s r, st :: sts, h => by
    simp only [chkSs, Bool.and_eq_true] at h
    exact ss_cons (okS g hk hp s st h.1) (okSs g hk hp r sts h.2)
end
end
end PV

namespace PV
open PySem PySem.Spec PyProof.Rows L2

theorem headSlot_some {s : En} {x : Slot} (h : headSlot s = some x) : s[0]? = some (some x) ∧ isTupS x = false := by
  cases s with
  | nil => cases h
  | cons y r =>
    cases y with
    | none => cases h
    | some z =>
      simp only [headSlot] at h
      split at h
      · cases h
      · next hz => cases h; exact ⟨rfl, by simpa using hz⟩
theorem outsOf_get : ∀ {as : List Slot} {ms : List Bool} {s : En} {outs : List Slot}, outsOf ms as s = some outs → outs.length = as.length ∧
    ∀ (j : Nat) (a : Slot), as[j]? = some a → ∃ o, outs[j]? = some o ∧ ((ms.getD j false = true ∧ s[j]? = some (some o) ∧ isTupS o = false) ∨ (ms.getD j false = false ∧ o = a ∧ keepsOff a = true))
  | [], ms, s, outs, h => by
    have e : some [] = some outs := by simpa [outsOf] using h
    cases e
    exact ⟨rfl, fun j a h => by simp at h⟩
  | a :: as, ms, s, outs, h => by
    simp only [outsOf] at h
    cases h2 : outsOf ms.tail as s.tail with
    | none => rw [h2] at h; split at h <;> simp_all
    | some xs =>
      rw [h2] at h
      obtain ⟨l, g⟩ := outsOf_get h2
      have tl : ∀ j, s.tail[j]? = s[j + 1]? := fun j => by cases s <;> simp
      have main : ∀ x, (if ms.headD false = true then headSlot s else if keepsOff a = true then some a else none) = some x → outs = x :: xs → outs.length = (a :: as).length ∧
          ∀ (j : Nat) (b : Slot), (a :: as)[j]? = some b → ∃ o, outs[j]? = some o ∧ ((ms.getD j false = true ∧ s[j]? = some (some o) ∧ isTupS o = false) ∨ (ms.getD j false = false ∧ o = b ∧ keepsOff b = true)) := fun x hx e => by
        subst e
        refine ⟨by simp [l], fun j b hb => ?_⟩
        cases j with
        | zero =>
          simp at hb; subst hb
          refine ⟨x, rfl, ?_⟩
          rw [← headD_getD]
          split at hx
          · next hm => exact .inl ⟨hm, headSlot_some hx⟩
          · next hm =>
            split at hx
            · next hk => cases hx; exact .inr ⟨by simpa using hm, rfl, hk⟩
            · cases hx
        | succ j =>
          obtain ⟨o, h3, h4⟩ := g j b (by simpa using hb)
          refine ⟨o, by simpa using h3, ?_⟩
          rw [tail_getD, tl] at h4
          exact h4
      cases h1 : (if ms.headD false = true then headSlot s else if keepsOff a = true then some a else none) with
      | none => rw [h1] at h; cases h
      | some x => rw [h1] at h; cases h; exact main x h1 rfl
theorem map_some_get {α : Type} {l : List α} {i : Nat} {x : α} (h : (l.map some)[i]? = some (some x)) : l[i]? = some x := by
  rw [List.getElem?_map] at h
  obtain ⟨y, e1, e2⟩ := Option.map_eq_some_iff.mp h
  cases e2; exact e1
theorem app_none_get {α : Type} {l : List (Option α)} {n i : Nat} {x : α} (h : (l ++ List.replicate n none)[i]? = some (some x)) : l[i]? = some (some x) := by
  by_cases hi : i < l.length
  · rw [List.getElem?_append_left hi] at h; exact h
  · rw [List.getElem?_append_right (by omega), List.getElem?_replicate] at h
    split at h <;> cases h
section
variable {K : PySem.W.Frag} {T : XT} {FH FH' H H' : Hp} {as outs : List Slot} {vs : List V} {s : En} {σ' : Sto} {n : Nat} {ms : List Bool} {kp : List Nat}
theorem Rl.ext (R : Rl K FH (as.map some) (vs.map some) H) : Rl K FH (as.map some ++ List.replicate n none) (vs.map some ++ List.replicate n none) H := by
  refine ⟨R.sub, ?_, fun i t h => ?_, fun i j a d t hij h1 hu h2 h3 hm h4 => ?_⟩
  · have := R.len
    simp only [List.length_append, List.length_replicate, this]
  · obtain ⟨v, e1, r⟩ := R.slot i t (app_none_get h)
    exact ⟨v, by rw [List.getElem?_append_left (List.getElem?_eq_some_iff.mp e1).1]; exact e1, r⟩
  · exact R.sep i j a d t hij (app_none_get h1) hu (app_none_get h2) (app_none_get h3) hm (app_none_get h4)
theorem own_ext {a : Addr} (h : ownAt (as.map some ++ List.replicate n none) (vs.map some ++ List.replicate n none) a) : ownAt (as.map some) (vs.map some) a := by
  obtain ⟨i, d, h1, h2⟩ := h
  exact ⟨i, d, app_none_get h1, app_none_get h2⟩
theorem mine_ext {a : Addr} (h : mineAt (as.map some ++ List.replicate n none) (vs.map some ++ List.replicate n none) a) : mineAt (as.map some) (vs.map some) a := by
  obtain ⟨i, d, h1, hm, h2⟩ := h
  exact ⟨i, d, app_none_get h1, hm, app_none_get h2⟩
/-- from a body's end to its caller's view -/
theorem outs_after (R0 : Rl K FH (as.map some) (vs.map some) H) (A : AfS kp K FH (as.map some ++ List.replicate n none) (vs.map some ++ List.replicate n none) H FH' s σ' H') (ho : outsOf ms as s = some outs) (hk : ∀ j, j < as.length → ms.getD j false = true → j ∈ kp) :
    After K FH (as.map some) (vs.map some) H FH' (outs.map some) H' ∧ (∀ (j : Nat) (t : Slot) (p : Addr), outs[j]? = some t → t.mine = true → vs[j]? = some (V.ref p) → (s[j]? = some (some t) ∧ σ'[j]? = some (some (V.ref p))) ∨ H p ≠ none) := by
  obtain ⟨lo, go⟩ := outsOf_get ho
  have lv : as.length = vs.length := by simpa using R0.len
  have src : ∀ (j : Nat) (t : Slot), outs[j]? = some t → ∃ a v, as[j]? = some a ∧ vs[j]? = some v ∧ ((s[j]? = some (some t) ∧ σ'[j]? = some (some v) ∧ ms.getD j false = true) ∨ (t = a ∧ keepsOff a = true ∧ ms.getD j false = false)) := fun j t ht => by
    have hj : j < as.length := by rw [← lo]; exact (List.getElem?_eq_some_iff.mp ht).1
    have ha : as[j]? = some as[j] := List.getElem?_eq_getElem hj
    have hv : vs[j]? = some (vs[j]'(by omega)) := List.getElem?_eq_getElem (by omega)
    obtain ⟨o, h1, h2⟩ := go j _ ha
    rw [ht] at h1; cases h1
    refine ⟨_, _, ha, hv, ?_⟩
    rcases h2 with ⟨hm, h2, _⟩ | ⟨hm, h2, h3⟩
    · refine .inl ⟨h2, ?_, hm⟩
      rw [A.kp j (hk j hj hm), List.getElem?_append_left (by simp; omega), List.getElem?_map, hv]; rfl
    · exact .inr ⟨h2, h3, hm⟩
  have bor_in : ∀ (j : Nat) (a : Slot) (v : V), as[j]? = some a → vs[j]? = some v → a.mine = true → ∃ p o, v = .ref p ∧ H p = some o ∧ FH p = none ∧ Top K FH H a.dat p := fun j a v ha hv hm => by
    obtain ⟨u, e1, r⟩ := R0.slot j a (by rw [List.getElem?_map, ha]; rfl)
    rw [List.getElem?_map, hv] at e1; cases e1
    obtain ⟨p, e2, nn, t⟩ := r.mineD hm
    obtain ⟨o, ho⟩ := t.ex
    exact ⟨p, o, e2, ho, nn, t⟩
  have bor_not : ∀ (j : Nat) (a : Slot) (p : Addr), as[j]? = some a → vs[j]? = some (V.ref p) → a.mine = true → keepsOff a = true → ¬ ownAt (as.map some) (vs.map some) p := fun j a p ha hv hm hkp ⟨i, d, h1, h2⟩ => by
    by_cases hij : i = j
    · subst hij
      rw [map_some_get h1] at ha
      cases ha; cases hkp
    · exact R0.sep i j p _ a hij h1 rfl h2 (by rw [List.getElem?_map, ha]; rfl) hm (by rw [List.getElem?_map, hv]; rfl)
  refine ⟨⟨⟨A.rl.sub, by simp [lo, lv], fun j t ht => ?_, fun i j p d t hij h1 hu h2 h3 hm h4 => ?_⟩, ⟨A.st.fle, fun p o h no => A.st.keep p o h fun z => no (own_ext z), A.st.aloc, fun p h1 h2 no => A.st.fnew p h1 h2 fun z => no (own_ext z), fun p ⟨j, d, h1, h2⟩ => ?_, fun p ⟨j, t, h1, hm, h2⟩ => ?_, fun j d h => ?_⟩⟩, fun j t p ht hm hv => ?_⟩
  · obtain ⟨a, v, ha, hv, hc⟩ := src j t (map_some_get ht)
    rcases hc with ⟨h1, h2, _⟩ | ⟨rfl, hkp, _⟩
    · obtain ⟨u, e1, r⟩ := A.rl.slot j t h1
      rw [h2] at e1; cases e1
      exact ⟨_, by rw [List.getElem?_map, hv]; rfl, r⟩
    · refine ⟨v, by rw [List.getElem?_map, hv]; rfl, ?_⟩
      obtain ⟨u, e1, r⟩ := R0.slot j t (by rw [List.getElem?_map, ha]; rfl)
      rw [List.getElem?_map, hv] at e1; cases e1
      cases hm : t.mine with
      | false =>
        cases t with
        | imm d => exact DR.mono A.st.fle _ _ r
        | _ => cases hm
      | true =>
        obtain ⟨p, e2, nn, tp⟩ := r.mineD hm
        subst e2
        obtain ⟨o, ho⟩ := tp.ex
        have no := bor_not j t p ha hv hm hkp
        exact SlR.ofMine hm (A.st.fnew p nn (by rw [ho]; simp) fun z => no (own_ext z)) (tp.mono A.st.fle fun o' h' => A.st.keep p o' h' fun z => no (own_ext z))
  · obtain ⟨a, v, ha, hv, hc⟩ := src i d (map_some_get h1)
    obtain ⟨a2, v2, ha2, hv2, hc2⟩ := src j t (map_some_get h3)
    have e1 : v = .ref p := by
      have := map_some_get h2
      rw [hv] at this; exact Option.some.inj this
    have e2 : v2 = .ref p := by
      have := map_some_get h4
      rw [hv2] at this; exact Option.some.inj this
    subst e1 e2
    rcases hc with ⟨k1, k2, _⟩ | ⟨rfl, hkp, _⟩
    · rcases hc2 with ⟨m1, m2, _⟩ | ⟨rfl, hkp2, _⟩
      · exact A.rl.sep i j p d t hij k1 hu k2 m1 hm m2
      · -- a borrowed object is no own object of the end
        obtain ⟨q, o, eq, hq, _⟩ := bor_in j t _ ha2 hv2 hm
        cases eq
        cases d with
        | own dd =>
          rcases A.st.own p ⟨i, dd, k1, k2⟩ with z | z
          · exact bor_not j t p ha2 hv2 hm hkp2 (own_ext z)
          · rw [hq] at z; cases z
        | lok dd =>
          obtain ⟨l1, l2⟩ := A.st.lk i dd k1
          rw [k2] at l2
          exact R0.sep i j p (.lok dd) t hij (app_none_get l1) rfl (app_none_get l2.symm) (by rw [List.getElem?_map, ha2]; rfl) hm (by rw [List.getElem?_map, hv2]; rfl)
        | imm _ => cases hu
        | bor _ => cases hu
    · cases d <;> first | (cases hu; done) | (cases hkp; done)
  · obtain ⟨a, v, ha, hv, hc⟩ := src j _ (map_some_get h1)
    have e1 : v = .ref p := by
      have := map_some_get h2
      rw [hv] at this; exact Option.some.inj this
    subst e1
    rcases hc with ⟨k1, k2, _⟩ | ⟨rfl, hkp, _⟩
    · rcases A.st.own p ⟨j, d, k1, k2⟩ with z | z
      · exact .inl (own_ext z)
      · exact .inr z
    · cases hkp
  · obtain ⟨a, v, ha, hv, hc⟩ := src j _ (map_some_get h1)
    have e1 : v = .ref p := by
      have := map_some_get h2
      rw [hv] at this; exact Option.some.inj this
    subst e1
    rcases hc with ⟨k1, k2, _⟩ | ⟨rfl, hkp, _⟩
    · rcases A.st.mn p ⟨j, t, k1, hm, k2⟩ with z | z
      · exact .inl (mine_ext z)
      · exact .inr z
    · exact .inl ⟨j, t, by rw [List.getElem?_map, ha]; rfl, hm, by rw [List.getElem?_map, hv]; rfl⟩
  · obtain ⟨a, v, ha, hv, hc⟩ := src j _ (map_some_get h)
    rcases hc with ⟨k1, k2, _⟩ | ⟨rfl, hkp, _⟩
    · exact ⟨app_none_get (A.st.lk j d k1).1, rfl⟩
    · cases hkp
  · obtain ⟨a, v, ha, hv2, hc⟩ := src j _ ht
    rw [hv] at hv2; cases hv2
    rcases hc with ⟨k1, k2, _⟩ | ⟨rfl, hkp, _⟩
    · exact .inl ⟨k1, k2⟩
    · obtain ⟨q, o, eq, hq, _⟩ := bor_in j t _ ha hv hm
      cases eq
      exact .inr (by rw [hq]; simp)
end
end PV

namespace PV
open PySem PySem.Spec PyProof.Rows L2

section
variable {K : PySem.W.Frag} {T : XT} {FH FH' H H' : Hp} {as outs : List Slot} {vs : List V} {s s' : En} {σ σ' : Sto} {n : Nat} {ms : List Bool} {kp : List Nat} {e : En}
/-- a slot is forgotten -/
theorem AfS.drop (A : AfS kp K FH e σ H FH' s σ' H') (i : Nat) : AfS kp K FH e σ H FH' (s.set i none) σ' H' := by
  have nm : ∀ {j : Nat} {t : Slot}, (s.set i none)[j]? = some (some t) → s[j]? = some (some t) := fun {j t} h => by
    rcases set_get_cases h with ⟨_, e1, _⟩ | ⟨_, h⟩
    · cases e1
    · exact h
  refine ⟨A.rl.sim (by rw [List.length_set]; exact A.rl.len) fun j t ht => ⟨t, nm ht, rfl, rfl, rfl, rfl⟩, ⟨A.st.fle, A.st.keep, A.st.aloc, A.st.fnew, fun a ⟨j, d, h1, h2⟩ => A.st.own a ⟨j, d, nm h1, h2⟩, fun a ⟨j, t, h1, hm, h2⟩ => A.st.mn a ⟨j, t, nm h1, hm, h2⟩, fun j d h => A.st.lk j d (nm h)⟩, A.kp⟩
theorem ret_ok {np : Nat} {v r : Vl} {u : V} (R0 : Rl K FH (as.map some) (vs.map some) H) (hn : as.length = np) (A : AfS kp K FH (as.map some ++ List.replicate n none) (vs.map some ++ List.replicate n none) H FH' s σ' H') (hr : retV np s v = .ok r s') (ho : outsOf ms as s' = some outs)
    (hk : ∀ j, j < as.length → ms.getD j false = true → j ∈ kp) (rv : ValR K FH' s σ' H H' u v) : ∃ FH'', After K FH (as.map some) (vs.map some) H FH'' (outs.map some) H' ∧ ValR K FH'' (outs.map some) (vs.map some) H H' u r := by
  cases v with
  | imm d =>
    simp only [retV] at hr
    cases hr
    exact ⟨FH', (outs_after R0 A ho hk).1, rv⟩
  | fresh d =>
    simp only [retV] at hr
    cases hr
    obtain ⟨A', no⟩ := outs_after R0 A ho hk
    obtain ⟨p, eu, nf, np', t, ns⟩ := rv
    refine ⟨FH', A', p, eu, nf, np', t, fun j sl h1 hm h2 => ?_⟩
    rcases no j sl p (map_some_get h1) hm (map_some_get h2) with ⟨k1, k2⟩ | z
    · exact ns j sl k1 hm k2
    · exact z np'
  | vr i =>
    simp only [retV] at hr
    have rv' : σ'[i]? = some (some u) := rv
    split at hr
    · next d hi =>
      obtain ⟨p, o, e1, hp, n1, t⟩ := A.rl.mineSome hi rfl
      rw [rv'] at e1; cases e1
      split at hr
      · next hlt =>
        cases hr
        obtain ⟨p', o', e1, ho', R2, S2, dr⟩ := A.rl.freeze hi
        rw [rv'] at e1; cases e1
        exact ⟨_, (outs_after R0 ⟨R2, A.st.trans S2, A.kp⟩ ho hk).1, dr⟩
      · next hlt =>
        cases hr
        obtain ⟨A', no⟩ := outs_after R0 (A.drop i) ho hk
        obtain ⟨lo, go⟩ := outsOf_get ho
        -- the object is younger than the call
        have hnone : H p = none := by
          rcases A.st.own p ⟨i, d, hi, rv'⟩ with z | z
          · obtain ⟨j, d', h1, h2⟩ := own_ext z
            have ha := map_some_get h1
            have hv := map_some_get h2
            have hj : j < as.length := (List.getElem?_eq_some_iff.mp ha).1
            obtain ⟨o2, g1, g2⟩ := go j _ ha
            rcases g2 with ⟨hm, g2, g3⟩ | ⟨_, rfl, g3⟩
            · have hji : i ≠ j := by omega
              have hs : s[j]? = some (some o2) := by
                rw [List.getElem?_set_ne hji] at g2; exact g2
              have hσ : σ'[j]? = some (some (V.ref p)) := by
                rw [A.kp j (hk j hj hm), List.getElem?_append_left (by simp; have := R0.len; simp at this; omega), List.getElem?_map, hv]; rfl
              cases hmm : o2.mine with
              | true => exact absurd hσ (A.rl.sep i j p _ o2 hji hi rfl rv' hs hmm)
              | false =>
                obtain ⟨w, e1, q⟩ := A.rl.slot j o2 hs
                rw [hσ] at e1; cases e1
                cases o2 with
                | imm dd =>
                  have q' : DR K FH' dd (.ref p) := q
                  cases dd with
                  | list ds =>
                    unfold DR at q'
                    obtain ⟨b, ys, eb, hb, _⟩ := q'
                    cases eb
                    rcases hb with hb | ⟨ob, hb⟩ <;> rw [n1] at hb <;> cases hb
                  | dict ds =>
                    unfold DR at q'
                    obtain ⟨b, ys, eb, hb, _⟩ := q'
                    cases eb
                    rcases hb with hb | ⟨ob, hb⟩ <;> rw [n1] at hb <;> cases hb
                  | tuple ds => cases g3
                  | none => unfold DR at q'; cases q'
                  | bool _ => unfold DR at q'; cases q'
                  | int _ => unfold DR at q'; cases q'
                  | str _ => unfold DR at q'; cases q'
                | own _ => cases hmm
                | lok _ => cases hmm
                | bor _ => cases hmm
            · cases g3
          · exact z
        refine ⟨FH', A', p, rfl, n1, hnone, t, fun j sl h1 hm h2 => ?_⟩
        rcases no j sl p (map_some_get h1) hm (map_some_get h2) with ⟨k1, k2⟩ | z
        · rcases set_get_cases k1 with ⟨_, e1, _⟩ | ⟨hne, k1⟩
          · cases e1
          · exact A.rl.sep i j p _ sl hne hi rfl rv' k1 hm k2
        · exact z hnone
    · next d hi =>
      cases hr
      obtain ⟨w, e1, q⟩ := A.rl.slot i _ hi
      rw [rv'] at e1; cases e1
      exact ⟨FH', (outs_after R0 A ho hk).1, q⟩
    · cases hr
/-- the places of the parameters that may be changed -/
def kpOf (ms : List Bool) (np : Nat) : List Nat := (List.range np).filter fun j => ms.getD j false
theorem body_of {G : Cf} {F : CF} {fn : Fn} {Q : VK} {E : XK} {N : List Str} (hN : N.length = fn.nn) (h : spF K T fn.np (runFn G fn F) vs H Q E) :
    tSt (kpOf fn.modes fn.np) K T (fun cls d _ H => E cls d H) (evSs G F fn.body) { nx := fun _ H' => Q .non H', rt := Q } (L2.start N vs) H := by
  obtain ⟨hv, FH, as, la, R0, hm⟩ := h
  have hst : L2.start N vs = vs.map some ++ List.replicate (fn.nn - fn.np) none := by unfold L2.start; rw [hN, hv]
  have hk : ∀ j, j < as.length → fn.modes.getD j false = true → j ∈ kpOf fn.modes fn.np := fun j h1 h2 => by
    unfold kpOf
    rw [List.mem_filter, List.mem_range]
    exact ⟨by omega, h2⟩
  refine ⟨FH, as.map some ++ List.replicate (fn.nn - fn.np) none, by rw [hst]; exact R0.ext, ?_⟩
  rw [hst]
  unfold runFn at hm
  rw [if_pos la] at hm
  generalize evSs G F fn.body (as.map some ++ List.replicate (fn.nn - fn.np) none) = o at hm
  cases o with
  | stuck => exact hm.elim
  | exc x s =>
    simp only [finish] at hm
    cases ho : outsOf fn.modes as s with
    | none => rw [ho] at hm; exact hm.elim
    | some outs =>
      rw [ho] at hm
      exact fun FH' σ' H' cls d A ex => hm FH' H' cls d (outs_after R0 A ho hk).1 ex
  | ok f s =>
    simp only [finish] at hm
    intro FH' σ' H' A
    have key : ∀ v u, endOf f = some v → ValR K FH' s σ' H H' u v → Q u H' := fun v u hf rv => by
      rw [hf] at hm
      simp only at hm
      cases hr : retV fn.np s v with
      | stuck => rw [hr] at hm; exact hm.elim
      | exc _ _ => rw [hr] at hm; exact hm.elim
      | ok r s' =>
        rw [hr] at hm
        simp only at hm
        cases ho : outsOf fn.modes as s' with
        | none => rw [ho] at hm; exact hm.elim
        | some outs =>
          rw [ho] at hm
          obtain ⟨FH'', A', rv'⟩ := ret_ok R0 la A hr ho hk rv
          exact hm FH'' H' u A' rv'
    cases f with
    | nx => exact key _ .non rfl (by show DR _ _ _ _; unfold DR; rfl)
    | rt v => exact fun u r => key v u rfl r
    | bk => exact hm.elim
    | ct => exact hm.elim
end

/-! ### a def keeps what its code says -/
section
variable {P : Program} {w : World} {K : PySem.W.Frag} {mg : Str → Option Value} {base : Heap} {T : XT} {G : Cf} {F : CF} {D : Ck} {lv : Nat} {fn : Fn} {N ps : List Str} {scope : Scope} {body : List Stmt}
/-- the module's facts, for the code of its defs -/
structure ModG (P : Program) (w : World) (K : PySem.W.Frag) (mg : Str → Option Value) (base : Heap) (D : Ck) (G : Cf) : Prop where
  bl : ∀ x ∈ bltNames, mg x = none
  gl : ∀ k x, D.gn k = some x → ∃ u v, mg x = some u ∧ RelV v u ∧ DR K (fun _ => none) (G.gc k) v
  sys : ∃ o, base.get? sysModules = some o
theorem fnG_of {f : Addr} {name qual : Str} {params : Arguments} {dV kV doc pm cdv ct oc : Value} {an od : Option Addr} {osl : Array (Option Value)}
    (lk : K.lookup f = some ⟨oc, od, .func (PySem.W.fnOf name qual params body scope dV kV doc pm an cdv ct), osl⟩) (hcd : PySem.W.codeIn K cdv qual = true) (S : FnScope N ps scope) (M : ModG P w K mg base D G)
    (hf : ∀ k x n ks, D.cs k = some (x, n, ks) → FnS P w K mg base T lv F D G k x n ks) (hN : N.length = fn.nn) (hp : ps.length = fn.np) (hc : chkSs D N scope (kpOf fn.modes fn.np) fn.body body = true) :
    FnG P w K mg base (lv + 1) f (PySem.W.fnOf name qual params body scope dV kV doc pm an cdv ct) ps (spF K T ps.length (runFn G fn F)) := by
  refine ⟨fun _ _ _ _ q => q.1, fun A outer s H args us vs Q E room guards entry binds vals sp => ?_⟩
  have here : K.In s.heap := entry.mod.kin.keeps fun b o e => (entry.bs b o e).1
  have nolim : s.heap.NoLimit := entry.mod.nolimit.keeps fun b o e => (entry.bs b o e).1
  have params_kind : ∀ y ∈ ps.zip us, scope.names.lookup y.1 = some .local ∨ (scope.names.lookup y.1 = some .cell ∧ ((cellsFrom (s.heap.objs.size + 1) scope.names []).lookup y.1).isSome = true) := by
    intro y hy
    rcases S.par y.1 (List.of_mem_zip (a := y.1) (b := y.2) hy).1 with q | q
    · exact .inl q
    · exact .inr ⟨q, PySem.W.cellsFrom_some _ _ _ (.inl q)⟩
  refine codeAny_call_function room.depth (here _ _ lk) rfl S.co S.gen rfl (PySem.W.codeRec_of here hcd) (binds _ _ _ _ ?_)
  refine wpAny_newFunctionEnv_cells S.kind params_kind fun env envEq s1 inC => ?_
  subst envEq
  refine ⟨nolim.keeps inC.toInCall.keep, codeAny_func ?_⟩
  have I : Inv (cxOf (L2.CX P w) P w K mg base N qual scope f cdv A outer s H E) [] (L2.start N vs) H s1 := inv_start S room.hd entry sp.1 vals inC
  have tk : Takes (cxOf (L2.CX P w) P w K mg base N qual scope f cdv A outer s H E) (fun cls d _ H => E cls d H) := takes_of rfl rfl rfl rfl
  have good : Good (cxOf (L2.CX P w) P w K mg base N qual scope f cdv A outer s H E) T (fun cls d _ H => E cls d H) G F D lv true N scope :=
    { scp := rfl, nm := rfl, nod := S.nd, calm := rfl, gd := guards, sys := M.sys, room := room.deeper _, px := fun σ => passAt tk σ, bl := M.bl, fc := fun _ _ => rfl, gl := M.gl, fn := hf }
  have code := okSs (kp := kpOf fn.modes fn.np) good S.kind (passes_of rfl) fn.body body hc
  have want := body_of (N := N) hN (by rw [← hp]; exact sp)
  refine wpAny_mono (code.run [] s1 (L2.start N vs) H _ I want) (fun fl s' hs => ?_) fun e s' hs => hs
  have fin : ∀ {σ' : L2.St} {H' : Hp} {v : V} {u : Value}, Inv (cxOf (L2.CX P w) P w K mg base N qual scope f cdv A outer s H E) [] σ' H' s' → RelV v u → Q v H' → CE outer P w H s Q u s' := by
    intro σ' H' v u J r q
    exact ⟨v, H', J.os, J.bare, J.base, J.hok, r, q⟩
  match fl, hs with
  | .ret u, hs => obtain ⟨v, σ', H', J, r, q⟩ := hs; exact fin J r q
  | .next, hs => obtain ⟨σ', H', J, q⟩ := hs; exact fin (v := V.non) (u := Value.none) J rfl q
  | .brk, hs => obtain ⟨_, _, _, q⟩ := hs; exact q.elim
  | .cont, hs => obtain ⟨_, _, _, q⟩ := hs; exact q.elim
end
end PV

namespace PV
open PySem PySem.Spec PyProof.Rows L2

/-! ### all defs at once -/
structure DefOk (K : PySem.W.Frag) (mg : Str → Option Value) (D : Ck) (G : Cf) (tbl : Nat → Option Fn) (k : Nat) (x : Str) (n : Nat) (ks : List Str) : Prop where
  it : ∃ (f : Addr) (name qual : Str) (params : Arguments) (body : List Stmt) (scope : Scope) (dV kV doc pm cdv ct oc : Value) (an od : Option Addr) (osl : Array (Option Value)) (N ps : List Str) (fn : Fn),
    K.lookup f = some ⟨oc, od, .func (PySem.W.fnOf name qual params body scope dV kV doc pm an cdv ct), osl⟩ ∧ PySem.W.codeIn K cdv qual = true ∧ FnScope N ps scope ∧ mg x = some (.ref f) ∧ PySem.W.keepIn K (.ref f) = true ∧
    Shp K (PySem.W.fnOf name qual params body scope dV kV doc pm an cdv ct) ps n ks (G.shapes k).src ∧ ps.length = (G.shapes k).src.length ∧ tbl (G.shapes k).f = some fn ∧ N.length = fn.nn ∧ ps.length = fn.np ∧
    chkSs D N scope (kpOf fn.modes fn.np) fn.body body = true
theorem defs_ok {P : Program} {w : World} {K : PySem.W.Frag} {mg : Str → Option Value} {base : Heap} {T : XT} {D : Ck} {G : Cf} {tbl : Nat → Option Fn} (M : ModG P w K mg base D G) (h : ∀ k x n ks, D.cs k = some (x, n, ks) → DefOk K mg D G tbl k x n ks) :
    ∀ (m k : Nat) (x : Str) (n : Nat) (ks : List Str), D.cs k = some (x, n, ks) → FnS P w K mg base T m (callN G tbl m) D G k x n ks
  | 0, k, x, n, ks, hk => by
    obtain ⟨f, name, qual, params, body, scope, dV, kV, doc, pm, cdv, ct, oc, an, od, osl, N, ps, fn, h1, h2, h3, h4, h5, h6, h7, _⟩ := (h k x n ks hk).it
    refine ⟨f, _, ps, h4, h5, h6, h7, ⟨fun _ _ _ _ q => q.1, fun A outer s H args us vs Q E _ _ _ _ _ sp => ?_⟩⟩
    obtain ⟨_, _, _, _, _, z⟩ := sp
    exact z.elim
  | m + 1, k, x, n, ks, hk => by
    obtain ⟨f, name, qual, params, body, scope, dV, kV, doc, pm, cdv, ct, oc, an, od, osl, N, ps, fn, h1, h2, h3, h4, h5, h6, h7, h8, h9, h10, h11⟩ := (h k x n ks hk).it
    refine ⟨f, _, ps, h4, h5, h6, h7, ?_⟩
    have e : callN G tbl (m + 1) (G.shapes k).f = runFn G fn (callN G tbl m) := by
      funext as
      simp only [callN, h8]
    rw [e]
    exact fnG_of h1 h2 h3 M (defs_ok M h m) h9 h10 h11
theorem defOk_of {K : PySem.W.Frag} {mg : Str → Option Value} {D : Ck} {G : Cf} {tbl : Nat → Option Fn} {k n : Nat} {x qual : Str} {ks N ps : List Str} {params : Arguments} {body : List Stmt} {scope : Scope} {kws : List (Str × V)} {f : Addr} {fd : FuncData} {fn : Fn} (F : FunD K x qual params body scope [] kws f fd) (S : FnScope N ps scope) (hm : mg x = some (.ref f))
    (hb : ∀ (kV doc pm : Value) (an : Option Addr) (cdv ct : Value) (us ws : List Value), us.length = n → ws.length = ks.length → bindArgs (PySem.W.fnOf x qual params body scope .none kV doc pm an cdv ct) ⟨us, ks.zip ws⟩ = pure (ps.zip (place (G.shapes k).src (us ++ ws) .none)))
    (hl : ps.length = (G.shapes k).src.length) (ht : tbl (G.shapes k).f = some fn) (hN : N.length = fn.nn) (hp : ps.length = fn.np) (hc : chkSs D N scope (kpOf fn.modes fn.np) fn.body body = true) : DefOk K mg D G tbl k x n ks := by
  obtain ⟨oc, od, dV, kV, doc, pm, an, cdv, ct, osl, rfl, lk, hcd, hD, _⟩ := F.ex
  rcases hD with ⟨_, rfl⟩ | ⟨e, _⟩
  · exact ⟨f, x, qual, params, body, scope, .none, kV, doc, pm, cdv, ct, oc, an, od, osl, N, ps, fn, lk, hcd, S, hm, F.kp, ⟨fun s us ws _ l1 l2 => .of_eq (hb kV doc pm an cdv ct us ws l1 l2)⟩, hl, ht, hN, hp, hc⟩
  · exact absurd rfl e

/-! ### the law's call -/
theorem cx_none {P : Program} {w : World} {H : Hp} {s s' : Shared} {e : Value} (h : L2.CX P w [] H s (fun _ _ _ => False) e s') : False := by
  obtain ⟨_, _, _, _, _, _, _, _, _, _, _, _, z⟩ := h
  exact z
/-- what is known of the written part: it holds no list, the system's modules stand in it -/
def kNoList (K : PySem.W.Frag) : Bool := K.all fun p => match p.2.cls with
  | .type c => !(c == "list")
  | _ => true
theorem kNoList_ok {K : PySem.W.Frag} (h : kNoList K = true) {a : Addr} {o : Obj} (e : K.lookup a = some o) : o.cls ≠ .type "list" := fun z => by
  have hm : (a, o) ∈ K := by
    clear h
    induction K with
    | nil => cases e
    | cons p r ih =>
      obtain ⟨b, q⟩ := p
      rw [List.lookup_cons] at e
      cases hb : (a == b) with
      | true =>
        rw [hb] at e
        cases e
        have : a = b := by simpa using hb
        subst this; simp
      | false =>
        rw [hb] at e
        exact List.mem_cons_of_mem _ (ih e)
  have := List.all_eq_true.mp h _ hm
  rw [z] at this
  simp at this
theorem law_callG {P : Program} {w : World} {K : PySem.W.Frag} {mg mb : Str → Option Value} {lv : Nat} {fa a : Addr} {sp : Sp} {s₁ : Shared} {vs : List Value} {ns : List Int} (kin : K.In s₁.heap) (kno : kNoList K = true)
    (globs : s₁.heap.Ns mainGlobals mg) (blts : s₁.heap.Ns builtinsNs mb) (blte : ∀ x : Str, x ≠ "__name__" → mb x = bootBuiltins x) (nolim : s₁.heap.NoLimit) (gens : s₁.gens = #[])
    (ha : s₁.heap.get? a = some { cls := .type "list", data := .seq vs.toArray }) (hi : IntsAre vs ns) (hl : ns.length ≤ sizeLine) (room : Room lv callerA)
    (F : ∀ base : Heap, K.In base → ∃ fd ps, FnG P w K mg base lv fa fd ps sp ∧ ∀ (s : Shared) (u : Value), K.In s.heap → BindsTo s fd ⟨[u], []⟩ (ps.zip [u]))
    (hsp : ∀ (H : Hp) (o : Obj), H a = some (.frz o (.lst (ns.map V.int))) → sp [.ref a] H (fun v _ => v = .bl true) fun _ _ _ => False) :
    codeAny (model P w) callerA (.call (.ref fa) ⟨[.ref a], []⟩) (fun r s' => r = .ok (.ret (.bool true)) ∧ OldK s₁.heap s'.heap ∧ s'.os = s₁.os ∧ AllBare s'.gens) s₁ := by
  have rel := vals_ints hi
  have noK : K.lookup a = none := by
    cases e : K.lookup a with
    | none => rfl
    | some o =>
      have e2 := kin a o e
      rw [ha] at e2
      cases e2
      exact absurd rfl (kNoList_ok kno e)
  obtain ⟨H, hH⟩ : ∃ H : Hp, H = fun b => if b = a then some (HO.frz { cls := .type "list", data := .seq vs.toArray } (.lst (ns.map V.int))) else none := ⟨_, rfl⟩
  have Ha : H a = some (.frz { cls := .type "list", data := .seq vs.toArray } (.lst (ns.map V.int))) := by rw [hH]; exact if_pos rfl
  have Hb : ∀ b, b ≠ a → H b = none := fun b hb => by rw [hH]; exact if_neg hb
  have held : HOk P w H s₁.heap := fun b o e => by
    by_cases hb : b = a
    · subst hb
      rw [Ha] at e; cases e
      exact ⟨ha, by rw [List.length_map]; exact hl, vs, _, rel, ha⟩
    · rw [Hb b hb] at e; cases e
  have apart : ∀ {b : Addr} {o : Obj}, s₁.heap.get? b = some o → (∀ us n, o.data ≠ .seq us n) → H b = none := fun {b o} e nd => Hb b fun z => by
    subst z
    rw [ha] at e; cases e
    exact nd _ _ rfl
  have spaces : ∀ {b : Addr} {m : Str → Option Value}, s₁.heap.Ns b m → (hidT s₁.heap H).Ns b m := fun {b m} n => by
    obtain ⟨o, es, ep, e, d, r⟩ := n
    exact ⟨o, es, ep, hidT_get e (apart e fun us n z => by rw [d] at z; cases z), d, r⟩
  have below : K.In (hidT s₁.heap H) := fun b o e => hidT_get (kin b o e) (Hb b fun z => by rw [z, noK] at e; cases e)
  have md : Mod K mg (hidT s₁.heap H) := by
    obtain ⟨mc, c1, c2⟩ := nolim
    exact ⟨below, spaces globs, ⟨mb, spaces blts, blte⟩, ⟨mc, spaces c1, c2⟩⟩
  have entry : Env0 P w K mg (hidT s₁.heap H) callerA [] s₁ H := by
    refine ⟨rfl, md, fun b o e => of_hidT e, Nat.le_of_eq (hidT_size _ _), trivial, fun b hb => ?_, held, .of_eq gens⟩
    exact absurd (show b ∈ ([] : List Addr) from hb) (by simp)
  obtain ⟨fd, ps, good, binds⟩ := F _ below
  have call := good.run callerA [] s₁ H ⟨[.ref a], []⟩ [.ref a] [.ref a] _ _ room rfl entry (binds s₁ (.ref a) kin) (.cons rfl .nil) (hsp H _ Ha)
  refine codeAny_mono call fun r s' back => ?_
  match r, back with
  | .error e, back => exact (cx_none back).elim
  | .ok (.ret u), back =>
    obtain ⟨v, H', os, bare, un, held', rv, q⟩ := back
    have q : v = .bl true := q
    subst q
    cases (show u = Value.bool true from rv)
    refine ⟨rfl, OldK.of_keep fun b o e => ?_, os, bare⟩
    by_cases hb : b = a
    · subst hb
      have f2 := un.frzs b _ _ Ha
      obtain ⟨g2, _⟩ := held' b _ f2
      rw [ha] at e; cases e
      exact g2
    · exact un.keep b o e (Hb b hb) (fun z => by simp [frs] at z) (by simp)
theorem walk_ofG {l : PySem.W.OpenLaw} {n lv : Nat} {q : Program} {loose : List Str} {XP : (Str → Option Value) → Heap → Prop} {YP : World → Heap → Prop} {d : DefRec} (hn : l.most = some n) (hn2 : n ≤ sizeLine) (hdf : d.params.defaults = []) (hr : Room lv callerA)
    (F : ∀ (w : World) (mg : Str → Option Value) (fa : Addr) (h : Heap), YP w h → h.Ns mainGlobals mg → mg d.name = some (.ref fa) → ∃ (K : PySem.W.Frag) (sp : Sp), K.In h ∧ kNoList K = true ∧
      (∀ (H : Hp) (a : Addr) (o : Obj) (ns : List Int), ns.length ≤ n → H a = some (.frz o (.lst (ns.map V.int))) → sp [.ref a] H (fun v _ => v = .bl true) fun _ _ _ => False) ∧
      ∀ base : Heap, K.In base → ∃ fd ps, FnG l.prog w K mg base lv fa fd ps sp ∧ ∀ (s : Shared) (u : Value), K.In s.heap → BindsTo s fd ⟨[u], []⟩ (ps.zip [u])) :
    PySem.W.WalkO q loose XP YP l.row.toRowW d [] (fun f vs => PySem.call f vs) := by
  refine Att.attach_call hn hdf fun w s₀ s₁ mg mb fa o pm cd doc a vs ns Gr Y ho hd hcd hmg hobj hints hlen hg => ?_
  obtain ⟨K, sp, kin, kno, hsp, hF⟩ := F w mg fa _ Y Gr.T.g hmg
  exact law_callG kin kno Gr.T.g Gr.T.b Gr.T.builtins Gr.T.nolimit hg hobj hints (Nat.le_trans hlen hn2) hr hF fun H o e => hsp H a o ns hlen e
/-- the law's def at the script -/
theorem sp_law {K : PySem.W.Frag} {T : XT} {g : List Slot → COut} {H : Hp} {a : Addr} {o : Obj} {ns : List Int} (hH : H a = some (.frz o (.lst (ns.map V.int)))) (hg : ∃ outs, g [.imm (.list (ns.map .int))] = .ok (.imm (.bool true)) outs) :
    spF K T 1 g [.ref a] H (fun v _ => v = .bl true) fun _ _ _ => False := by
  obtain ⟨outs, hg⟩ := hg
  refine ⟨rfl, fun b => if b = a then some (.frz o (.lst (ns.map V.int))) else none, [.imm (.list (ns.map .int))], rfl, ⟨fun b u e => ?_, rfl, fun i t h => ?_, fun i j p d t hij h1 hu => ?_⟩, ?_⟩
  · by_cases hb : b = a
    · subst hb
      simp only [if_true] at e
      rw [← e]; exact hH
    · simp only [hb, if_false] at e; cases e
  · match i, h with
    | 0, h =>
      cases h
      refine ⟨_, rfl, ?_⟩
      show DR K _ (.list _) _
      unfold DR
      exact ⟨a, _, rfl, .inr ⟨o, if_pos rfl⟩, DRs.ints ns⟩
    | i + 1, h => simp at h
  · match i, h1 with
    | 0, h1 => cases h1; cases hu
    | i + 1, h1 => simp at h1
  · rw [hg]
    intro FH' H' v A rv
    have r : DR K FH' (.bool true) v := rv
    unfold DR at r
    exact r
end PV

namespace PV
open PySem PySem.Spec PyProof.Rows L2

/-! ### the head's facts, with the system's modules -/
def partS (g : Addr → Option Obj) (n : Nat) : PySem.W.Frag := He.frG g (He.asD g n ++ [sysModules])
abbrev AlS : Type := He.AlD × Bool
def obsS (n : Nat) (fa : List He.Fa) (fn : List He.DefD) (g : Addr → Option Obj) : AlS := (He.obsD fa fn (partS g n), kNoList (partS g n) && ((partS g n).lookup sysModules).isSome)
def hookS (n : Nat) (fa : List He.Fa) (fn : List He.DefD) : PySem.W.Hook where
  α := AlS
  obs := fun s => obsS n fa fn s.heap.get?
  val := fun _ => (He.valD fn, true)
  says := fun _ h => ∃ K : PySem.W.Frag, K.In h ∧ He.SaysD fa fn K ∧ kNoList K = true ∧ ∃ o, K.lookup sysModules = some o
  of := fun w s e => by
    have e1 : He.obsD fa fn (partS s.heap.get? n) = He.valD fn := congrArg Prod.fst e
    have e2 : (kNoList (partS s.heap.get? n) && ((partS s.heap.get? n).lookup sysModules).isSome) = true := congrArg Prod.snd e
    rw [Bool.and_eq_true] at e2
    exact ⟨_, He.frG_in, e1, e2.1, Option.isSome_iff_exists.mp e2.2⟩
  keeps := fun _ _ _ ⟨K, i, c⟩ k => ⟨K, PySem.W.Frag.In.keeps i k, c⟩
theorem obsS_eq {n : Nat} {fa : List He.Fa} {fn : List He.DefD} {g : Addr → Option Obj} {s : Shared} (h : ∀ a, g a = s.heap.get? a) : obsS n fa fn g = (hookS n fa fn).obs s := by
  have e : g = s.heap.get? := funext h
  subst e; rfl
/-- a law, from what the evaluator says of its def -/
theorem walk_law {l : PySem.W.OpenLaw} {q : Program} {loose : List Str} {XP : (Str → Option Value) → Heap → Prop} {d : DefRec} {n na k : Nat} {fa : List He.Fa} {fn : List He.DefD} {D : Ck} {G : Cf} {tbl : Nat → Option Fn} (m : Nat) (hn : l.most = some n) (hn2 : n ≤ sizeLine) (hdf : d.params.defaults = []) (hr : Room m callerA)
    (hname : d.name = ("law" : Str)) (hd : ∀ {K : PySem.W.Frag} {h : Heap} {mg : Str → Option Value}, K.In h → h.Ns mainGlobals mg → He.SaysD fa fn K → ∀ k x n ks, D.cs k = some (x, n, ks) → DefOk K mg D G tbl k x n ks)
    (hM : ∀ {K : PySem.W.Frag} {h base : Heap} {mg : Str → Option Value} {P : Program} {w : World}, K.In h → h.Ns mainGlobals mg → He.SaysD fa fn K → (∃ o, base.get? sysModules = some o) → ModG P w K mg base D G)
    (hk : D.cs k = some (("law" : Str), 1, [])) (hsrc : (G.shapes k).src = [some 0]) (hlaw : ∀ ns : List Int, ns.length ≤ n → ∃ outs, callN G tbl m (G.shapes k).f [.imm (.list (ns.map .int))] = .ok (.imm (.bool true)) outs) :
    PySem.W.WalkO q loose XP (hookS na fa fn).says l.row.toRowW d [] (fun f vs => PySem.call f vs) := by
  refine walk_ofG (lv := m) hn hn2 hdf hr fun w mg f h Y Gm hm => ?_
  obtain ⟨K, i, c, kno, o, hs⟩ := Y
  rw [hname] at hm
  refine ⟨K, spF K ⟨fun _ => 0, fun _ => []⟩ 1 (callN G tbl m (G.shapes k).f), i, kno, fun H a o ns hl e => sp_law e (hlaw ns hl), fun base ib => ?_⟩
  obtain ⟨f2, fd, ps, h1, h2, h3, h4, h5⟩ := (defs_ok (P := l.prog) (w := w) (base := base) (T := ⟨fun _ => 0, fun _ => []⟩) (hM i Gm c ⟨o, ib _ _ hs⟩) (hd i Gm c) m k _ 1 [] hk).it
  rw [hm] at h1
  cases h1
  have hl : ps.length = 1 := by rw [h4, hsrc]; rfl
  refine ⟨fd, ps, by rw [hl] at h5; exact h5, fun s u ks => ?_⟩
  have b := h3.to s [u] [] ks rfl rfl
  rw [hsrc] at b
  exact b
end PV

namespace PV
open PySem PySem.Spec PyProof.Rows L2

/-! ### plain lemmas about the evaluator -/
section
variable {G : Cf} {F : CF} {x : S} {r a b : Ss} {s s1 s2 : En} {c : E} {v : Vl} {res : Out Fl} {tg : Tg} {it : It}
theorem ss_nx (h : evS G F x s = .ok .nx s1) (h2 : evSs G F r s1 = res) : evSs G F (.cons x r) s = res := by
  simp only [evSs, h, Out.bind_ok]; exact h2
theorem ss_rt (h : evS G F x s = .ok (.rt v) s1) : evSs G F (.cons x r) s = .ok (.rt v) s1 := by
  simp only [evSs, h, Out.bind_ok]
theorem ss_end : evSs G F .nil s = .ok .nx s := rfl
theorem if_t (h : tests (evE G F c) s = .ok true s1) (h2 : evSs G F a s1 = res) : evS G F (.ife c a b) s = res := by
  simp only [evS, h, Out.bind_ok, if_true]; exact h2
theorem if_f (h : tests (evE G F c) s = .ok false s1) (h2 : evSs G F b s1 = res) : evS G F (.ife c a b) s = res := by
  simp only [evS, h, Out.bind_ok, Bool.false_eq_true, if_false]; exact h2
theorem for_ok {p : List PyData × List Vl} {f : Fl} (hi : evI G F it s = .ok p s1) (hl : forLoop (bindT tg) (evSs G F b) p.1 (locks s1 (lokI s1 p.2)) = .ok f s2) : evS G F (.for tg it b) s = .ok f (unlocks s2 (lokI s1 p.2)) := by
  simp only [evS, hi, Out.bind_ok, hl, unlO]
theorem loop_nil {bd : PyData → En → Option En} {bo : En → Out Fl} : forLoop bd bo [] s = .ok .nx s := rfl
theorem loop_nx {bd : PyData → En → Option En} {bo : En → Out Fl} {d : PyData} {ds : List PyData} (h : bd d s = some s1) (h1 : bo s1 = .ok .nx s2) (h2 : forLoop bd bo ds s2 = res) : forLoop bd bo (d :: ds) s = res := by
  simp only [forLoop, h, h1, Out.bind_ok]; exact h2
theorem loop_rt {bd : PyData → En → Option En} {bo : En → Out Fl} {d : PyData} {ds : List PyData} (h : bd d s = some s1) (h1 : bo s1 = .ok (.rt v) s2) : forLoop bd bo (d :: ds) s = .ok (.rt v) s2 := by
  simp only [forLoop, h, h1, Out.bind_ok]
theorem run_of {fn : Fn} {as : List Slot} (hl : as.length = fn.np) (h : evSs G F fn.body (as.map some ++ List.replicate (fn.nn - fn.np) none) = res) : runFn G fn F as = finish fn as res := by
  unfold runFn
  rw [if_pos hl, h]
end
theorem mulOk_r {i j : Int} (h : -(2 ^ 64) < j ∧ j < 2 ^ 64) : mulOk i j = true := by
  unfold mulOk
  rw [Bool.or_eq_true]
  exact .inl (decide_eq_true (.inr h))
theorem mulOk_l {i j : Int} (h : -(2 ^ 64) < i ∧ i < 2 ^ 64) : mulOk i j = true := by
  unfold mulOk
  rw [Bool.or_eq_true]
  exact .inl (decide_eq_true (.inl h))
theorem ints_map : ∀ l : List Int, ints? (l.map .int) = some l
  | [] => rfl
  | x :: l => by
    rw [List.map_cons, ints?, ints_map l]; rfl
theorem cutD_map {α β : Type} (f : α → β) (l : List α) (lo hi : Option Int) : cutD (l.map f) lo hi = (cutD l lo hi).map f := by
  unfold cutD
  rw [List.length_map, List.map_take, List.map_drop]
theorem atI_nat {α : Type} (l : List α) (i : Nat) : atI l (i : Int) = l[i]? := by
  unfold atI ixN
  rw [if_pos (Int.natCast_nonneg i)]
  by_cases h : (i : Int) < l.length
  · rw [if_pos h]; rfl
  · rw [if_neg h]
    rw [List.getElem?_eq_none (by omega)]; rfl
theorem bits_le {n : Int} (h : 0 < n ∧ n < 2 ^ 59) : ((Builtin.Int.intBits n : Nat) : Int) ≤ 59 := by
  unfold Builtin.Int.intBits
  rw [if_neg (by simp; omega)]
  have : n.natAbs < 2 ^ 59 := by omega
  have h2 : n.natAbs.log2 < 59 := (Nat.log2_lt (by omega)).mpr this
  omega
theorem rng_one : rangeD 0 1 = [.int 0] := rfl
theorem rng_two : rangeD 0 2 = [.int 0, .int 1] := rfl
/-- a def's run, one level down -/
theorem call_of {G : Cf} {fns : List Fn} {m f : Nat} {as : List Slot} {fn : Fn} (h : fns[f]? = some fn) : callN G (fun i => fns[i]?) (m + 1) f as = runFn G fn (callN G (fun i => fns[i]?) m) as := by
  show (match fns[f]? with | some fn => runFn G fn (callN G (fun i => fns[i]?) m) as | none => .stuck) = _
  rw [h]
section
variable {G : Cf} {F : CF} {a b : E} {s s1 s2 : En} {x y z : Vl} {d e : PyData}
theorem e_bin {op : Bo} (ha : evE G F a s = .ok x s1) (hb : evE G F b s1 = .ok y s2) (hx : rdv s2 x = some d) (hy : rdv s2 y = some e) (ho : opBin op d e = some z) : evE G F (.bin op a b) s = .ok z s2 := by
  have h : evE G F (.bin op a b) s = (evE G F a s).bind fun x s1 => (evE G F b s1).bind fun y s2 => ofO s2 ((rdv s2 x).bind fun d => (rdv s2 y).bind fun e => opBin op d e) := by simp only [evE]
  rw [h, ha, Out.bind_ok, hb, Out.bind_ok, hx, hy, Option.bind_some, Option.bind_some, ho]; rfl
theorem e_cmp {op : Co} {k : Bool} (ha : evE G F a s = .ok x s1) (hb : evE G F b s1 = .ok y s2) (hx : rdv s2 x = some d) (hy : rdv s2 y = some e) (ho : opCmp op d e = some k) : evE G F (.cmp op a b) s = .ok (.imm (.bool k)) s2 := by
  have h : evE G F (.cmp op a b) s = (evE G F a s).bind fun x s1 => (evE G F b s1).bind fun y s2 => ofO s2 ((rdv s2 x).bind fun d => (rdv s2 y).bind fun e => (opCmp op d e).map fun k => .imm (.bool k)) := by simp only [evE]
  rw [h, ha, Out.bind_ok, hb, Out.bind_ok, hx, hy, Option.bind_some, Option.bind_some, ho]; rfl
theorem i_rng1 {n : Int} (ha : evE G F a s = .ok (.imm (.int n)) s1) (hs : smallR n = true) : evI G F (.rng1 a) s = .ok (rangeD 0 n, []) s1 := by
  have h : evI G F (.rng1 a) s = (evE G F a s).bind fun x s1 => match rdv s1 x with
    | some (.int i) => if smallR i = true then .ok (rangeD 0 i, []) s1 else .stuck
    | _ => .stuck := by simp only [evI] <;> rfl
  rw [h, ha, Out.bind_ok]
  show (if smallR n = true then _ else _) = _
  rw [if_pos hs]
theorem i_seqL {ds : List PyData} (ha : evE G F a s = .ok x s1) (hx : rdv s1 x = some (.list ds)) : evI G F (.seq a) s = .ok (ds, [x]) s1 := by
  have h : evI G F (.seq a) s = (evE G F a s).bind fun x s1 => match rdv s1 x with
    | some (.list ds) => .ok (ds, [x]) s1
    | some (.tuple ds) => .ok (ds, [x]) s1
    | some (.str z) => if z.length ≤ sizeLine then .ok (chars z, []) s1 else .stuck
    | _ => .stuck := by simp only [evI] <;> rfl
  rw [h, ha, Out.bind_ok, hx]
theorem e_bits {n : Int} (ha : evE G F a s = .ok x s1) (hx : rdv s1 x = some (.int n)) : evE G F (.me .bits a .nil) s = .ok (.imm (.int (Builtin.Int.intBits n : Nat))) s1 := by
  have h : evE G F (.me .bits a .nil) s = (evE G F a s).bind fun x s1 => if (rdv s1 x).any (meT .bits) = true then (evEs G F .nil s1).bind fun vs s2 => ofO s2 ((rdv s2 x).bind fun d => (rdAll s2 vs).bind fun ds => opMe .bits d ds) else .stuck := by simp only [evE]
  rw [h, ha, Out.bind_ok, hx]
  show (if true = true then _ else _) = _
  rw [if_pos rfl]
  show (Out.ok [] s1).bind _ = _
  rw [Out.bind_ok, hx]; rfl
theorem o_fdiv {i j : Int} (h : 0 < j ∧ j.natAbs.log2 < 9000) : opBin .fdiv (.int i) (.int j) = some (.imm (.int (i / j))) := by
  show (if 0 < j ∧ j.natAbs.log2 < 9000 then some (Vl.imm (.int (i / j))) else none) = _
  rw [if_pos h]
theorem o_md {i j : Int} (h : 0 < j) : opBin .md (.int i) (.int j) = some (.imm (.int (i % j))) := by
  show (if 0 < j then some (Vl.imm (.int (i % j))) else none) = _
  rw [if_pos h]
theorem o_mul {i j : Int} (h : mulOk i j = true) : opBin .mul (.int i) (.int j) = some (.imm (.int (i * j))) := by
  show (if mulOk i j = true then some (Vl.imm (.int (i * j))) else none) = _
  rw [if_pos h]
end
/-! ### comprehensions -/
theorem restE_of {s1 s2 : En} {own : List Nat} (h : wipeE s2 own = wipeE s1 own) : restE s1 s2 own = s1 := by
  refine List.ext_getElem? fun i => ?_
  have hi : (wipeE s2 own)[i]? = (wipeE s1 own)[i]? := by rw [h]
  unfold wipeE at hi
  rw [mapI_get, mapI_get, Nat.zero_add] at hi
  unfold restE
  rw [mapI_get, Nat.zero_add]
  by_cases ho : own.contains i = true
  · simp only [ho, if_true] at hi ⊢
    cases h1 : s1[i]? with
    | none =>
      rw [h1] at hi
      cases h2 : s2[i]? with
      | none => rfl
      | some y => rw [h2] at hi; cases hi
    | some x =>
      rw [h1] at hi
      cases h2 : s2[i]? with
      | none => rw [h2] at hi; cases hi
      | some y =>
        show some (s1.getD i none) = _
        rw [List.getD_eq_getElem?_getD, h1]; rfl
  · simp only [ho, Bool.false_eq_true, if_false] at hi ⊢
    rw [Option.map_id', Option.map_id'] at hi
    rw [Option.map_id']
    exact hi
theorem lcLoop_filter {bd : PyData → En → Option En} {c : En → Out Bool} {elt : En → Out PyData} {own : List Nat} {w : En} {e : PyData → En} {p : PyData → Bool} {f : PyData → PyData} (hb : ∀ x, bd x w = some (e x)) (hw : ∀ x, wipeE (e x) own = w) : ∀ (ds acc : List PyData) (s : En),
    (∀ x ∈ ds, c (e x) = .ok (p x) (e x)) → (∀ x ∈ ds, p x = true → elt (e x) = .ok (f x) (e x)) → wipeE s own = w → ∃ s', lcLoop bd c elt own ds acc s = .ok (acc ++ (ds.filter p).map f) s' ∧ wipeE s' own = w
  | [], acc, s, _, _, h0 => ⟨s, by simp [lcLoop], h0⟩
  | x :: ds, acc, s, hc, he, h0 => by
    have h1 := hc x (by simp)
    simp only [lcLoop, h0, hb, h1, Out.bind_ok]
    cases hp : p x with
    | true =>
      have h2 := he x (by simp) hp
      simp only [if_true, h2, Out.bind_ok]
      obtain ⟨s', e1, e2⟩ := lcLoop_filter hb hw ds (acc ++ [f x]) (e x) (fun y hy => hc y (by simp [hy])) (fun y hy => he y (by simp [hy])) (hw x)
      exact ⟨s', by rw [e1]; simp [List.filter_cons, hp], e2⟩
    | false =>
      simp only [Bool.false_eq_true, if_false]
      obtain ⟨s', e1, e2⟩ := lcLoop_filter hb hw ds acc (e x) (fun y hy => hc y (by simp [hy])) (fun y hy => he y (by simp [hy])) (hw x)
      exact ⟨s', by rw [e1]; simp [List.filter_cons, hp], e2⟩
section
variable {G : Cf} {F : CF} {s : En}
/-- [elt for i in it if c], nothing of one's own about -/
theorem e_lc {elt : E} {it : It} {c : Oe} {i : Nat} {ds : List PyData} {vs : List Vl} {p : PyData → Bool} {f : PyData → PyData} (hi : evI G F it s = .ok (ds, vs) s) (hq : (quietE s [i] && lenOk it ds) = true) (hl : lokI s vs = []) (hlk : locks s [] = s) (hun : unlocks s [] = s)
    (hc : ∀ x ∈ ds, evT G F c ((wipeE s [i]).set i (some (.imm x))) = .ok (p x) ((wipeE s [i]).set i (some (.imm x)))) (he : ∀ x ∈ ds, p x = true → frz (evE G F elt) ((wipeE s [i]).set i (some (.imm x))) = .ok (f x) ((wipeE s [i]).set i (some (.imm x))))
    (hw : ∀ x, wipeE ((wipeE s [i]).set i (some (.imm x))) [i] = wipeE s [i]) : evE G F (.lc elt (.v i) it c [i]) s = .ok (.fresh (.list ((ds.filter p).map f))) s := by
  have h : evE G F (.lc elt (.v i) it c [i]) s = (evI G F it s).bind fun p s1 => if (quietE s1 [i] && lenOk it p.1) = true then (noX (lcLoop (bindT (.v i)) (evT G F c) (frz (evE G F elt)) [i] p.1 [] (locks s1 (lokI s1 p.2)))).bind fun ds s2 => .ok (.fresh (.list ds)) (unlocks (restE s1 s2 [i]) (lokI s1 p.2)) else .stuck := by simp only [evE]
  rw [h, hi, Out.bind_ok]
  show (if (quietE s [i] && lenOk it ds) = true then _ else _) = _
  rw [if_pos hq]
  show (noX (lcLoop (bindT (.v i)) (evT G F c) (frz (evE G F elt)) [i] ds [] (locks s (lokI s vs)))).bind _ = _
  rw [hl, hlk]
  obtain ⟨s', e1, e2⟩ := lcLoop_filter (bd := bindT (.v i)) (c := evT G F c) (elt := frz (evE G F elt)) (own := [i]) (w := wipeE s [i]) (e := fun x => (wipeE s [i]).set i (some (.imm x))) (p := p) (f := f) (fun x => rfl) hw ds [] s hc he rfl
  rw [e1]
  show (Out.ok (Vl.fresh (.list ([] ++ (ds.filter p).map f))) (unlocks (restE s s' [i]) []) : Out Vl) = _
  rw [restE_of e2, hun, List.nil_append]
end
section
variable {G : Cf} {F : CF} {a b c : E} {s s1 s2 : En} {x y z : Vl} {d e : PyData} {r : Out Vl}
theorem e_and_t (ha : evE G F a s = .ok x s1) (ht : (rdv s1 x).bind truD = some true) (hb : evE G F b s1 = r) : evE G F (.and a b) s = r := by
  have h : evE G F (.and a b) s = (evE G F a s).bind fun x s1 => match (rdv s1 x).bind truD with
    | some true => evE G F b s1
    | some false => .ok x s1
    | none => .stuck := by simp only [evE] <;> rfl
  rw [h, ha, Out.bind_ok, ht]; exact hb
theorem e_and_f (ha : evE G F a s = .ok x s1) (ht : (rdv s1 x).bind truD = some false) : evE G F (.and a b) s = .ok x s1 := by
  have h : evE G F (.and a b) s = (evE G F a s).bind fun x s1 => match (rdv s1 x).bind truD with
    | some true => evE G F b s1
    | some false => .ok x s1
    | none => .stuck := by simp only [evE] <;> rfl
  rw [h, ha, Out.bind_ok, ht]
theorem e_or_t (ha : evE G F a s = .ok x s1) (ht : (rdv s1 x).bind truD = some true) : evE G F (.or a b) s = .ok x s1 := by
  have h : evE G F (.or a b) s = (evE G F a s).bind fun x s1 => match (rdv s1 x).bind truD with
    | some false => evE G F b s1
    | some true => .ok x s1
    | none => .stuck := by simp only [evE] <;> rfl
  rw [h, ha, Out.bind_ok, ht]
theorem e_or_f (ha : evE G F a s = .ok x s1) (ht : (rdv s1 x).bind truD = some false) (hb : evE G F b s1 = r) : evE G F (.or a b) s = r := by
  have h : evE G F (.or a b) s = (evE G F a s).bind fun x s1 => match (rdv s1 x).bind truD with
    | some false => evE G F b s1
    | some true => .ok x s1
    | none => .stuck := by simp only [evE] <;> rfl
  rw [h, ha, Out.bind_ok, ht]; exact hb
theorem e_isi {Ts : List Nat} (ha : evE G F a s = .ok x s1) (hx : rdv s1 x = some d) : evE G F (.isi a Ts) s = .ok (.imm (.bool (Ts.any fun T => isiD T d))) s1 := by
  have h : evE G F (.isi a Ts) s = (evE G F a s).bind fun x s1 => ofO s1 ((rdv s1 x).map fun d => .imm (.bool (Ts.any fun T => isiD T d))) := by simp only [evE]
  rw [h, ha, Out.bind_ok, hx]; rfl
theorem e_nt {k : Bool} (ha : evE G F a s = .ok x s1) (ht : (rdv s1 x).bind truD = some k) : evE G F (.nt a) s = .ok (.imm (.bool (!k))) s1 := by
  have h : evE G F (.nt a) s = (tests (evE G F a) s).bind fun b s1 => .ok (.imm (.bool (!b))) s1 := by simp only [evE]
  rw [h]
  unfold tests
  rw [ha, Out.bind_ok, ht]; rfl
theorem t_of {k : Bool} (ha : evE G F a s = .ok x s1) (ht : (rdv s1 x).bind truD = some k) : tests (evE G F a) s = .ok k s1 := by
  unfold tests
  rw [ha, Out.bind_ok, ht]; rfl
theorem s_rt (ha : evE G F a s = .ok x s1) : evS G F (.ret a) s = .ok (.rt x) s1 := by
  have h : evS G F (.ret a) s = (evE G F a s).bind fun x s1 => .ok (.rt x) s1 := by simp only [evS]
  rw [h, ha, Out.bind_ok]
theorem i_seqS {w : Str} (ha : evE G F a s = .ok x s1) (hx : rdv s1 x = some (.str w)) (hw : w.length ≤ sizeLine) : evI G F (.seq a) s = .ok (chars w, []) s1 := by
  have h : evI G F (.seq a) s = (evE G F a s).bind fun x s1 => match rdv s1 x with
    | some (.list ds) => .ok (ds, [x]) s1
    | some (.tuple ds) => .ok (ds, [x]) s1
    | some (.str z) => if z.length ≤ sizeLine then .ok (chars z, []) s1 else .stuck
    | _ => .stuck := by simp only [evI] <;> rfl
  rw [h, ha, Out.bind_ok, hx]
  show (if w.length ≤ sizeLine then _ else _) = _
  rw [if_pos hw]
end
/-! ### flat lists beside the empty one -/
theorem canAll_of : ∀ {ds : List PyData}, (∀ d ∈ ds, d.canLay0 = true ∧ d.depth = 0) → PyData.canLayAll0 ds = true ∧ PyData.depthAll ds = 0
  | [], _ => ⟨rfl, rfl⟩
  | d :: ds, h => by
    obtain ⟨h1, h2⟩ := h d (by simp)
    obtain ⟨h3, h4⟩ := canAll_of (ds := ds) fun x hx => h x (by simp [hx])
    exact ⟨by simp [PyData.canLayAll0, h1, h3], by simp [PyData.depthAll, h2, h4]⟩
theorem shaped_of_flat {ds : List PyData} (h : ∀ d ∈ ds, d.canLay0 = true ∧ d.depth = 0) : SeqAt.shaped (.list ds) = true := by
  obtain ⟨h1, h2⟩ := canAll_of h
  unfold SeqAt.shaped
  rw [Bool.and_eq_true]
  exact ⟨by simpa [PyData.canLay0] using h1, by simp [PyData.depth, h2]⟩
theorem eqD_nil {ds : List PyData} (h : ∀ d ∈ ds, d.canLay0 = true ∧ d.depth = 0) : eqD (.list ds) (.list []) = some ds.isEmpty := by
  have h1 := shaped_of_flat h
  have h2 : SeqAt.shaped (.list []) = true := by decide
  unfold eqD
  rw [h1, h2]
  have h3 : scal2 (.list ds) (.list []) = false := rfl
  rw [h3]
  cases ds <;> rfl
theorem chars_flat {z : Str} (h : ∀ c ∈ z.cps.toList, c < 0x110000) : ∀ d ∈ chars z, d.canLay0 = true ∧ d.depth = 0 := fun d hd => by
  unfold chars at hd
  obtain ⟨c, hc, rfl⟩ := List.mem_map.mp hd
  refine ⟨?_, rfl⟩
  have hcc := h c hc
  show PyData.strOk ⟨#[c]⟩ = true
  unfold PyData.strOk
  simpa using hcc
/-! ### calls whose values are all data -/
theorem apart_imm : ∀ (ds : List PyData) (ms : List Bool), apart ms (ds.map Vl.imm) = true
  | [], _ => rfl
  | d :: ds, ms => by
    show (true && apart ms.tail (ds.map Vl.imm)) = true
    rw [apart_imm ds]; rfl
theorem slotsOf_imm (s : En) : ∀ (ds : List PyData) (ms : List Bool), slotsOf s ms (ds.map Vl.imm) = some (ds.map Slot.imm)
  | [], _ => rfl
  | d :: ds, ms => by
    show (match slotOf s (ms.headD false) (.imm d), slotsOf s ms.tail (ds.map Vl.imm) with | some a, some r => some (a :: r) | _, _ => none) = _
    rw [slotsOf_imm s ds]; rfl
theorem back_imm (s : En) : ∀ (ds : List PyData) (ms : List Bool) (outs : List Slot), outs.length = ds.length → back ms (ds.map Vl.imm) outs s = some s
  | [], ms, [], _ => rfl
  | d :: ds, ms, o :: outs, h => by
    show back ms.tail (ds.map Vl.imm) outs s = some s
    exact back_imm s ds _ outs (by simpa using h)
  | [], _, _ :: _, h => by simp at h
  | _ :: _, _, [], h => by simp at h
theorem call_imm {F : CF} {ms : Nat → List Bool} {f : Nat} {ds : List PyData} {s : En} {r : Vl} {outs : List Slot} (h : F f (ds.map Slot.imm) = .ok r outs) (hl : outs.length = ds.length) (hr : r.noVr = true) : doCall F ms f (ds.map Vl.imm) s = .ok r s := by
  unfold doCall
  rw [if_pos (apart_imm _ _), slotsOf_imm]
  show (match F f (ds.map Slot.imm) with | .ok r outs => _ | .exc x outs => _ | .stuck => _) = _
  rw [h]
  show (match back (ms f) (ds.map Vl.imm) outs s with | some s' => if r.noVr = true then Out.ok r s' else .stuck | none => .stuck) = _
  rw [back_imm s ds _ outs hl]
  show (if r.noVr = true then Out.ok r s else .stuck) = _
  rw [if_pos hr]
theorem e_callk {G : Cf} {F : CF} {k : Nat} {es ks : Es} {s s1 s2 : En} {vs ws : List Vl} {res : Out Vl} (h1 : evEs G F es s = .ok vs s1) (h2 : evEs G F ks s1 = .ok ws s2) (h3 : doCall F G.modes (G.shapes k).f (place (G.shapes k).src (vs ++ ws) (.imm .none)) s2 = res) : evE G F (.callk k es ks) s = res := by
  have h : evE G F (.callk k es ks) s = (evEs G F es s).bind fun vs s1 => (evEs G F ks s1).bind fun ws s2 => doCall F G.modes (G.shapes k).f (place (G.shapes k).src (vs ++ ws) (.imm .none)) s2 := by simp only [evE]
  rw [h, h1, Out.bind_ok, h2, Out.bind_ok]; exact h3
theorem es_cons {G : Cf} {F : CF} {e : E} {r : Es} {s s1 s2 : En} {x : Vl} {xs : List Vl} (h1 : evE G F e s = .ok x s1) (h2 : evEs G F r s1 = .ok xs s2) : evEs G F (.cons e r) s = .ok (x :: xs) s2 := by
  simp only [evEs, h1, h2, Out.bind_ok]
theorem e_bi {G : Cf} {F : CF} {b : Bi} {es : Es} {s s1 : En} {vs : List Vl} {ds : List PyData} {r : Vl} (h1 : evEs G F es s = .ok vs s1) (h2 : rdAll s1 vs = some ds) (h3 : opBi b ds = some r) : evE G F (.bi b es) s = .ok r s1 := by
  have h : evE G F (.bi b es) s = (evEs G F es s).bind fun vs s1 => ofO s1 ((rdAll s1 vs).bind fun ds => opBi b ds) := by simp only [evE]
  rw [h, h1, Out.bind_ok, h2, Option.bind_some, h3]; rfl
theorem e_sub {G : Cf} {F : CF} {a i : E} {s s1 s2 : En} {x y : Vl} {d e r : PyData} (h1 : evE G F a s = .ok x s1) (h2 : evE G F i s1 = .ok y s2) (hx : rdv s2 x = some d) (hy : rdv s2 y = some e) (h3 : subD d e = some r) : evE G F (.sub a i) s = .ok (.imm r) s2 := by
  have h : evE G F (.sub a i) s = (evE G F a s).bind fun x s1 => (evE G F i s1).bind fun y s2 => ofO s2 ((rdv s2 x).bind fun d => (rdv s2 y).bind fun e => (subD d e).map .imm) := by simp only [evE]
  rw [h, h1, Out.bind_ok, h2, Out.bind_ok, hx, hy, Option.bind_some, Option.bind_some, h3]; rfl
theorem e_cmp2 {G : Cf} {F : CF} {op op2 : Co} {a b c : E} {s s1 s2 s3 : En} {x y z : Vl} {d1 d2 d3 : PyData} {k : Bool} (h1 : evE G F a s = .ok x s1) (h2 : evE G F b s1 = .ok y s2) (hx : rdv s2 x = some d1) (hy : rdv s2 y = some d2) (h3 : opCmp op d1 d2 = some true) (h4 : evE G F c s2 = .ok z s3) (hy' : rdv s3 y = some d2) (hz : rdv s3 z = some d3) (h5 : opCmp op2 d2 d3 = some k) : evE G F (.cmp2 op op2 a b c) s = .ok (.imm (.bool k)) s3 := by
  have h : evE G F (.cmp2 op op2 a b c) s = (evE G F a s).bind fun x s1 => (evE G F b s1).bind fun y s2 => match (rdv s2 x).bind fun d => (rdv s2 y).bind fun e => opCmp op d e with
    | some true => (evE G F c s2).bind fun z s3 => ofO s3 ((rdv s3 y).bind fun d => (rdv s3 z).bind fun e => (opCmp op2 d e).map fun k => .imm (.bool k))
    | some false => .ok (.imm (.bool false)) s2
    | none => .stuck := by simp only [evE] <;> rfl
  rw [h, h1, Out.bind_ok, h2, Out.bind_ok, hx, hy, Option.bind_some, Option.bind_some, h3]
  show (evE G F c s2).bind _ = _
  rw [h4, Out.bind_ok, hy', hz, Option.bind_some, Option.bind_some, h5]; rfl
theorem e_cmp2_f {G : Cf} {F : CF} {op op2 : Co} {a b c : E} {s s1 s2 : En} {x y : Vl} {d1 d2 : PyData} (h1 : evE G F a s = .ok x s1) (h2 : evE G F b s1 = .ok y s2) (hx : rdv s2 x = some d1) (hy : rdv s2 y = some d2) (h3 : opCmp op d1 d2 = some false) : evE G F (.cmp2 op op2 a b c) s = .ok (.imm (.bool false)) s2 := by
  have h : evE G F (.cmp2 op op2 a b c) s = (evE G F a s).bind fun x s1 => (evE G F b s1).bind fun y s2 => match (rdv s2 x).bind fun d => (rdv s2 y).bind fun e => opCmp op d e with
    | some true => (evE G F c s2).bind fun z s3 => ofO s3 ((rdv s3 y).bind fun d => (rdv s3 z).bind fun e => (opCmp op2 d e).map fun k => .imm (.bool k))
    | some false => .ok (.imm (.bool false)) s2
    | none => .stuck := by simp only [evE] <;> rfl
  rw [h, h1, Out.bind_ok, h2, Out.bind_ok, hx, hy, Option.bind_some, Option.bind_some, h3]
end PV

namespace PV
open PySem PySem.Spec PyProof.Rows L2
/-! ### the codes (printed by gen.py) -/
def topS (i : Nat) : Stmt := PySem.Challenge.pw_waysround_k01_names_days_and_lots.main.body.getD i (.Pass ⟨0, 0, 0, 0⟩)
/-- is_whole(value); names value -/
def b0 : Ss :=
   (.cons (.ret (.and (.isi (.var 0) [0]) (.nt (.isi (.var 0) [1]))))
   .nil)
def fn0 : Fn := ⟨1, 1, [false], b0⟩
def nm0 : List Str := ["value"]
def ps0 : List Str := ["value"]
/-- is_count(value); names value -/
def b1 : Ss :=
   (.cons (.ret (.and (.callk 0 (.cons (.var 0) .nil) .nil) (.cmp .ge (.var 0) (.cn (.int 0)))))
   .nil)
def fn1 : Fn := ⟨1, 1, [false], b1⟩
def nm1 : List Str := ["value"]
def ps1 : List Str := ["value"]
/-- is_signs(value, signs); names value, signs, sign -/
def b2 : Ss :=
   (.cons (.ret (.and (.isi (.var 0) [2]) (.cmp .eq (.lc (.var 2) (.v 2) (.seq (.var 0)) (.so (.cmp .nin (.var 2) (.var 1))) [2]) (.lst .nil))))
   .nil)
def fn2 : Fn := ⟨3, 2, [false, false], b2⟩
def nm2 : List Str := ["value", "signs", "sign"]
def ps2 : List Str := ["value", "signs"]
/-- is_name(value); names value -/
def b3 : Ss :=
   (.cons (.ret (.and (.callk 1 (.cons (.var 0) (.cons (.bin .add (.glo 0) (.glo 1)) .nil)) .nil) (.and (.cmp2 .lt .le (.cn (.int 0)) (.bi .len (.cons (.var 0) .nil)) (.glo 2)) (.cmp .inn (.sub (.var 0) (.cn (.int 0))) (.glo 0)))))
   .nil)
def fn3 : Fn := ⟨1, 1, [false], b3⟩
def nm3 : List Str := ["value"]
def ps3 : List Str := ["value"]
/-- ascends(items); names items, at -/
def b4 : Ss :=
   (.cons (.ret (.cmp .eq (.lc (.var 1) (.v 1) (.rng2 (.cn (.int 1)) (.bi .len (.cons (.var 0) .nil))) (.so (.cmp .ge (.sub (.var 0) (.bin .sub (.var 1) (.cn (.int 1)))) (.sub (.var 0) (.var 1)))) [1]) (.lst .nil)))
   .nil)
def fn4 : Fn := ⟨2, 1, [false], b4⟩
def nm4 : List Str := ["items", "at"]
def ps4 : List Str := ["items"]
/-- is_day(value); names value -/
def b5 : Ss :=
   (.cons (.ret (.callk 2 (.cons (.var 0) .nil) .nil))
   .nil)
def fn5 : Fn := ⟨1, 1, [false], b5⟩
def nm5 : List Str := ["value"]
def ps5 : List Str := ["value"]
/-- is_lot(value); names value, item -/
def b6 : Ss :=
   (.cons (.ret (.and (.isi (.var 0) [3]) (.and (.cmp .eq (.lc (.var 1) (.v 1) (.seq (.var 0)) (.so (.nt (.callk 2 (.cons (.var 1) .nil) .nil))) [1]) (.lst .nil)) (.callk 3 (.cons (.var 0) .nil) .nil))))
   .nil)
def fn6 : Fn := ⟨2, 1, [false], b6⟩
def nm6 : List Str := ["value", "item"]
def ps6 : List Str := ["value"]
/-- _law_hash(seed, index); names seed, index, mixed -/
def b7 : Ss :=
   (.cons (.asg (.v 2) (.bin .md (.bi .int (.cons (.bin .add (.bin .add (.bin .add (.bin .mul (.var 0) (.cn (.int 1140671))) (.bin .mul (.bin .mul (.cn (.int 27644437)) (.var 1)) (.var 1))) (.bin .mul (.cn (.int 131)) (.var 1))) (.cn (.int 19))) .nil)) (.cn (.int 2147483629))))
   (.cons (.asg (.v 2) (.bin .md (.bi .int (.cons (.bin .add (.bin .add (.bin .mul (.var 2) (.var 2)) (.bin .mul (.cn (.int 62089)) (.var 1))) (.cn (.int 32416187))) .nil)) (.cn (.int 2147483587))))
   (.cons (.ret (.bin .md (.bi .int (.cons (.bin .mul (.var 2) (.cn (.int 48271))) .nil)) (.cn (.int 2147483647))))
   .nil)))
def fn7 : Fn := ⟨3, 2, [false, false], b7⟩
def nm7 : List Str := ["seed", "index", "mixed"]
def ps7 : List Str := ["seed", "index"]
/-- _law_cell(script, index); names script, index -/
def b8 : Ss :=
   (.cons (.ife (.cmp .lt (.var 1) (.bi .len (.cons (.var 0) .nil))) (.cons (.ret (.sub (.var 0) (.var 1)))
   .nil) .nil)
   (.cons (.ret (.bin .md (.bi .sum (.cons (.sli (.var 0) .no (.so (.cn (.int 1)))) .nil)) (.cn (.int 1000003))))
   .nil))
def fn8 : Fn := ⟨2, 2, [false, false], b8⟩
def nm8 : List Str := ["script", "index"]
def ps8 : List Str := ["script", "index"]
/-- _law_generator(script, index); names script, index, seed -/
def b9 : Ss :=
   (.cons (.asg (.v 2) (.callk 4 (.cons (.var 0) (.cons (.var 1) .nil)) .nil))
   (.cons (.ret (.lst (.cons (.bin .md (.bi .int (.cons (.bi .max (.cons (.bin .sub (.var 2) (.bin .pow (.cn (.int 10)) (.cn (.int 18)))) (.cons (.cn (.int 0)) .nil))) .nil)) (.bin .pow (.bin .pow (.cn (.int 10)) (.cn (.int 60))) (.cn (.int 10)))) (.cons (.bin .md (.bi .int (.cons (.var 2) .nil)) (.cn (.int 2147483647))) (.cons (.bin .mul (.cn (.int 1000)) (.var 1)) .nil)))))
   .nil))
def fn9 : Fn := ⟨3, 2, [false, false], b9⟩
def nm9 : List Str := ["script", "index", "seed"]
def ps9 : List Str := ["script", "index"]
/-- _law_random(generator, bound); names generator, bound, drawn, turn -/
def b10x0 : Ss :=
   (.cons (.setI 0 (.cn (.int 2)) (.bin .add (.sub (.var 0) (.cn (.int 2))) (.cn (.int 1))))
   (.cons (.asg (.v 2) (.bin .add (.bin .mul (.var 2) (.cn (.int 2147483587))) (.callk 5 (.cons (.sub (.var 0) (.cn (.int 1))) (.cons (.sub (.var 0) (.cn (.int 2))) .nil)) .nil)))
   .nil))
def b10 : Ss :=
   (.cons (.ife (.cmp .gt (.sub (.var 0) (.cn (.int 0))) (.cn (.int 0))) (.cons (.asg (.v 2) (.bin .md (.bi .int (.cons (.sub (.var 0) (.cn (.int 0))) .nil)) (.var 1)))
   (.cons (.setI 0 (.cn (.int 0)) (.bin .fdiv (.sub (.var 0) (.cn (.int 0))) (.var 1)))
   (.cons (.ret (.var 2))
   .nil))) .nil)
   (.cons (.asg (.v 2) (.cn (.int 0)))
   (.cons (.for (.v 3) (.rng1 (.bin .add (.cn (.int 1)) (.bin .fdiv (.me .bits (.var 1) .nil) (.cn (.int 30))))) b10x0)
   (.cons (.ret (.bin .md (.bi .int (.cons (.var 2) .nil)) (.var 1)))
   .nil))))
def fn10 : Fn := ⟨4, 2, [true, false], b10⟩
def nm10 : List Str := ["generator", "bound", "drawn", "turn"]
def ps10 : List Str := ["generator", "bound"]
/-- _law_pick(generator, things); names generator, things -/
def b11 : Ss :=
   (.cons (.ret (.sub (.var 1) (.callk 6 (.cons (.var 0) (.cons (.bi .len (.cons (.var 1) .nil)) .nil)) .nil)))
   .nil)
def fn11 : Fn := ⟨2, 2, [true, false], b11⟩
def nm11 : List Str := ["generator", "things"]
def ps11 : List Str := ["generator", "things"]
/-- _law_copied(value); names value, item -/
def b12 : Ss :=
   (.cons (.ife (.isi (.var 0) [3]) (.cons (.ret (.lc (.callk 7 (.cons (.var 1) .nil) .nil) (.v 1) (.seq (.var 0)) .no [1]))
   .nil) .nil)
   (.cons (.ife (.isi (.var 0) [4]) (.cons (.ret (.bi .tuple (.cons (.lc (.callk 7 (.cons (.var 1) .nil) .nil) (.v 1) (.seq (.var 0)) .no [1]) .nil)))
   .nil) .nil)
   (.cons (.ret (.var 0))
   .nil)))
def fn12 : Fn := ⟨2, 1, [false], b12⟩
def nm12 : List Str := ["value", "item"]
def ps12 : List Str := ["value"]
/-- _law_exact(told, due); names told, due, one, other -/
def b13 : Ss :=
   (.cons (.ife (.isi (.var 1) [3]) (.cons (.ret (.and (.isi (.var 0) [3]) (.and (.cmp .eq (.bi .len (.cons (.var 0) .nil)) (.bi .len (.cons (.var 1) .nil))) (.cmp .nin (.cn (.bool false)) (.lc (.callk 8 (.cons (.var 2) (.cons (.var 3) .nil)) .nil) (.t (.cons (.v 2) (.cons (.v 3) .nil))) (.zip (.var 0) (.var 1)) .no [2, 3])))))
   .nil) .nil)
   (.cons (.ife (.isi (.var 1) [4]) (.cons (.ret (.and (.isi (.var 0) [4]) (.and (.cmp .eq (.bi .len (.cons (.var 0) .nil)) (.bi .len (.cons (.var 1) .nil))) (.cmp .nin (.cn (.bool false)) (.lc (.callk 8 (.cons (.var 2) (.cons (.var 3) .nil)) .nil) (.t (.cons (.v 2) (.cons (.v 3) .nil))) (.zip (.var 0) (.var 1)) .no [2, 3])))))
   .nil) .nil)
   (.cons (.ife (.cmp .is (.var 1) (.cn .none)) (.cons (.ret (.cmp .is (.var 0) (.cn .none)))
   .nil) .nil)
   (.cons (.ife (.cmp .is (.var 1) (.cn (.bool true))) (.cons (.ret (.cmp .is (.var 0) (.cn (.bool true))))
   .nil) .nil)
   (.cons (.ife (.cmp .is (.var 1) (.cn (.bool false))) (.cons (.ret (.cmp .is (.var 0) (.cn (.bool false))))
   .nil) .nil)
   (.cons (.ife (.isi (.var 1) [0]) (.cons (.ret (.and (.isi (.var 0) [0]) (.and (.nt (.isi (.var 0) [1])) (.cmp .eq (.var 0) (.var 1)))))
   .nil) .nil)
   (.cons (.ret (.and (.isi (.var 0) [2]) (.cmp .eq (.var 0) (.var 1))))
   .nil)))))))
def fn13 : Fn := ⟨4, 2, [false, false], b13⟩
def nm13 : List Str := ["told", "due", "one", "other"]
def ps13 : List Str := ["told", "due"]
/-- _law_unlike(items); names items, found, item -/
def b14x0 : Ss :=
   (.cons (.ife (.cmp .nin (.var 2) (.var 1)) (.cons (.app 1 (.var 2))
   .nil) .nil)
   .nil)
def b14 : Ss :=
   (.cons (.asg (.v 1) (.lst .nil))
   (.cons (.for (.v 2) (.seq (.bi .sorted (.cons (.var 0) .nil))) b14x0)
   (.cons (.ret (.var 1))
   .nil)))
def fn14 : Fn := ⟨3, 1, [false], b14⟩
def nm14 : List Str := ["items", "found", "item"]
def ps14 : List Str := ["items"]
/-- _law_any(generator); names generator, menu -/
def b15 : Ss :=
   (.cons (.asg (.v 1) (.lst (.cons (.cn .none) (.cons (.cn (.bool true)) (.cons (.cn (.bool false)) (.cons (.cn (.int 0)) (.cons (.cn (.int 1)) (.cons (.neg (.cn (.int 1))) (.cons (.bin .pow (.cn (.int 10)) (.cn (.int 29))) (.cons (.cn (.str "")) (.cons (.cn (.str "a")) (.cons (.cn (.str "A")) (.cons (.cn (.str "ab")) (.cons (.cn (.str "a b")) (.cons (.cn (.str "1a")) (.cons (.cn (.str "a1")) (.cons (.cn (.str " ")) (.cons (.cn (.str "a\n")) (.cons (.bin .mul (.cn (.str "z")) (.cn (.int 20))) (.cons (.bin .mul (.cn (.str "z")) (.cn (.int 21))) (.cons (.cn (.str "abcdefgh")) (.cons (.cn (.str "abcdefghi")) .nil))))))))))))))))))))))
   (.cons (.asg (.v 1) (.bin .add (.var 1) (.lst (.cons (.lst .nil) (.cons (.tup .nil) (.cons (.dic .nil) (.cons (.lst (.cons (.cn (.int 0)) .nil)) (.cons (.lst (.cons (.cn (.int 1)) (.cons (.cn (.int 0)) .nil))) (.cons (.lst (.cons (.cn (.int 0)) (.cons (.cn (.str "a")) .nil))) (.cons (.lst (.cons (.cn (.str "a")) (.cons (.cn (.int 0)) .nil))) (.cons (.lst (.cons (.cn .none) (.cons (.cn (.int 0)) .nil))) (.cons (.lst (.cons (.cn (.int 0)) (.cons (.lst (.cons (.cn (.int 1)) .nil)) .nil))) (.cons (.lst (.cons (.cn (.int 0)) (.cons (.tup (.cons (.cn (.int 1)) .nil)) .nil))) (.cons (.lst (.cons (.cn (.bool true)) .nil)) (.cons (.lst (.cons (.cn (.int 0)) (.cons (.cn (.int 1)) .nil))) (.cons (.lst (.cons (.cn (.int 0)) (.cons (.cn (.int 0)) .nil))) (.cons (.tup (.cons (.cn (.int 0)) (.cons (.cn (.int 1)) .nil))) (.cons (.lst (.cons (.cn (.str "a")) .nil)) (.cons (.lst (.cons (.lst .nil) .nil)) .nil)))))))))))))))))))
   (.cons (.asg (.v 1) (.bin .add (.var 1) (.lst (.cons (.dic (.cons (.cn (.str "a")) (.cons (.cn (.int 1)) .nil))) (.cons (.lst (.cons (.cn (.int 1)) (.cons (.cn (.int 2)) (.cons (.bin .pow (.cn (.int 10)) (.cn (.int 29))) .nil)))) (.cons (.lst (.cons (.neg (.cn (.int 1))) .nil)) (.cons (.cn (.str "a_b")) (.cons (.cn (.str "aB")) (.cons (.bin .mul (.cn (.str "a")) (.cn (.int 200))) (.cons (.cn (.str "e0")) (.cons (.cn (.str "0")) (.cons (.cn (.str "house")) (.cons (.tup (.cons (.cn (.str "house")) .nil)) .nil)))))))))))))
   (.cons (.ret (.callk 7 (.cons (.callk 9 (.cons (.var 0) (.cons (.var 1) .nil)) .nil) .nil) .nil))
   .nil))))
def fn15 : Fn := ⟨2, 1, [true], b15⟩
def nm15 : List Str := ["generator", "menu"]
def ps15 : List Str := ["generator"]
/-- _law_name(value); names value, sign -/
def b16 : Ss :=
   (.cons (.ife (.or (.nt (.isi (.var 0) [2])) (.or (.cmp .gt (.bi .len (.cons (.var 0) .nil)) (.cn (.int 8))) (.cmp .nin (.sli (.var 0) .no (.so (.cn (.int 1)))) (.bi .list (.cons (.cn (.str "abcdefghijklmnopqrstuvwxyz")) .nil))))) (.cons (.ret (.cn (.bool false)))
   .nil) .nil)
   (.cons (.ret (.cmp .eq (.lc (.var 1) (.v 1) (.seq (.var 0)) (.so (.cmp .nin (.var 1) (.cn (.str "abcdefghijklmnopqrstuvwxyz0123456789")))) [1]) (.lst .nil)))
   .nil))
def fn16 : Fn := ⟨2, 1, [false], b16⟩
def nm16 : List Str := ["value", "sign"]
def ps16 : List Str := ["value"]
/-- _law_lot(value); names value, at, item -/
def b17 : Ss :=
   (.cons (.ife (.or (.nt (.isi (.var 0) [3])) (.cmp .ne (.lc (.var 2) (.v 2) (.seq (.var 0)) (.so (.or (.isi (.var 2) [1]) (.nt (.isi (.var 2) [0])))) [2]) (.lst .nil))) (.cons (.ret (.cn (.bool false)))
   .nil) .nil)
   (.cons (.ret (.cmp .eq (.lc (.var 1) (.v 1) (.rng1 (.bi .len (.cons (.var 0) .nil))) (.so (.or (.cmp .lt (.sub (.var 0) (.var 1)) (.cn (.int 0))) (.and (.cmp .gt (.var 1) (.cn (.int 0))) (.cmp .ge (.sub (.var 0) (.bin .sub (.var 1) (.cn (.int 1)))) (.sub (.var 0) (.var 1)))))) [1]) (.lst .nil)))
   .nil))
def fn17 : Fn := ⟨3, 1, [false], b17⟩
def nm17 : List Str := ["value", "at", "item"]
def ps17 : List Str := ["value"]
/-- _law_string(generator); names generator, signs, turn -/
def b18 : Ss :=
   (.cons (.asg (.v 1) (.callk 9 (.cons (.var 0) (.cons (.lst (.cons (.cn (.str "ab")) (.cons (.cn (.str "abcdefghijklmnopqrstuvwxyz")) (.cons (.cn (.str "a0123456789")) (.cons (.cn (.str "aZ_ -~")) (.cons (.cn (.str "a0\n\t")) .nil)))))) .nil)) .nil))
   (.cons (.ret (.me .join (.cn (.str "")) (.cons (.lc (.callk 9 (.cons (.var 0) (.cons (.var 1) .nil)) .nil) (.v 2) (.rng1 (.callk 6 (.cons (.var 0) (.cons (.cn (.int 24)) .nil)) .nil)) .no [2]) .nil)))
   .nil))
def fn18 : Fn := ⟨3, 1, [true], b18⟩
def nm18 : List Str := ["generator", "signs", "turn"]
def ps18 : List Str := ["generator"]
/-- _law_numbers(generator); names generator, turn -/
def b19 : Ss :=
   (.cons (.ret (.lc (.bin .sub (.callk 6 (.cons (.var 0) (.cons (.callk 9 (.cons (.var 0) (.cons (.lst (.cons (.cn (.int 3)) (.cons (.cn (.int 9)) (.cons (.bin .pow (.cn (.int 10)) (.cn (.int 12))) .nil)))) .nil)) .nil) .nil)) .nil) (.callk 6 (.cons (.var 0) (.cons (.cn (.int 2)) .nil)) .nil)) (.v 1) (.rng1 (.callk 6 (.cons (.var 0) (.cons (.cn (.int 6)) .nil)) .nil)) .no [1]))
   .nil)
def fn19 : Fn := ⟨2, 1, [true], b19⟩
def nm19 : List Str := ["generator", "turn"]
def ps19 : List Str := ["generator"]
/-- _law_judged(value); names value, kept, count, due, told, again -/
def b20 : Ss :=
   (.cons (.asg (.v 1) (.bi .repr (.cons (.var 0) .nil)))
   (.cons (.asg (.v 2) (.and (.isi (.var 0) [0]) (.and (.nt (.isi (.var 0) [1])) (.cmp .ge (.var 0) (.cn (.int 0))))))
   (.cons (.asg (.v 3) (.lst (.cons (.callk 16 (.cons (.var 0) .nil) .nil) (.cons (.var 2) (.cons (.callk 17 (.cons (.var 0) .nil) .nil) .nil)))))
   (.cons (.asg (.v 4) (.lst (.cons (.callk 13 (.cons (.var 0) .nil) .nil) (.cons (.callk 14 (.cons (.var 0) .nil) .nil) (.cons (.callk 15 (.cons (.var 0) .nil) .nil) .nil)))))
   (.cons (.asg (.v 5) (.lst (.cons (.callk 10 .nil (.cons (.var 0) .nil)) (.cons (.callk 11 .nil (.cons (.var 0) .nil)) (.cons (.callk 12 .nil (.cons (.var 0) .nil)) .nil)))))
   (.cons (.ret (.and (.callk 8 (.cons (.var 4) (.cons (.var 3) .nil)) .nil) (.and (.callk 8 (.cons (.var 5) (.cons (.var 3) .nil)) .nil) (.cmp .eq (.bi .repr (.cons (.var 0) .nil)) (.var 1)))))
   .nil))))))
def fn20 : Fn := ⟨6, 1, [false], b20⟩
def nm20 : List Str := ["value", "kept", "count", "due", "told", "again"]
def ps20 : List Str := ["value"]
/-- law(script); names script, index, due, generator, turn, numbers, value -/
def b21x0 : Ss :=
   (.cons (.ife (.nt (.callk 18 (.cons (.var 6) .nil) .nil)) (.cons (.ret (.cn (.bool false)))
   .nil) .nil)
   .nil)
def b21x1 : Ss :=
   (.cons (.asg (.v 5) (.callk 22 (.cons (.var 3) .nil) .nil))
   (.cons (.for (.v 6) (.seq (.lst (.cons (.callk 19 (.cons (.var 3) .nil) .nil) (.cons (.callk 20 (.cons (.var 3) .nil) .nil) (.cons (.var 5) (.cons (.bi .sorted (.cons (.var 5) .nil)) (.cons (.callk 21 (.cons (.var 5) .nil) .nil) (.cons (.bi .tuple (.cons (.callk 21 (.cons (.var 5) .nil) .nil) .nil)) .nil)))))))) b21x0)
   .nil))
def b21x2 : Ss :=
   (.cons (.asg (.v 3) (.callk 23 (.cons (.var 0) (.cons (.var 1) .nil)) .nil))
   (.cons (.for (.v 4) (.rng1 (.cn (.int 12))) b21x1)
   .nil))
def b21 : Ss :=
   (.cons (.for (.v 1) (.rng1 (.cn (.int 3))) b21x2)
   (.cons (.asg (.v 2) (.lc (.callk 18 (.cons (.var 6) .nil) .nil) (.v 6) (.seq (.lst (.cons (.lst (.cons (.cn (.int 0)) (.cons (.cn (.str "a")) .nil))) (.cons (.lst (.cons (.cn (.str "a")) (.cons (.cn (.int 0)) .nil))) (.cons (.lst (.cons (.cn .none) (.cons (.cn (.int 0)) .nil))) (.cons (.lst (.cons (.cn (.int 0)) (.cons (.lst (.cons (.cn (.int 1)) .nil)) .nil))) (.cons (.cn (.int 0)) (.cons (.bin .pow (.cn (.int 10)) (.cn (.int 12))) (.cons (.cn (.bool true)) (.cons (.neg (.cn (.int 1))) (.cons (.bin .mul (.cn (.str "a")) (.cn (.int 8))) (.cons (.bin .mul (.cn (.str "a")) (.cn (.int 9))) (.cons (.cn (.str "a0")) (.cons (.cn (.str "0a")) (.cons (.lst .nil) (.cons (.lst (.cons (.cn (.int 0)) .nil)) (.cons (.lst (.cons (.cn (.int 0)) (.cons (.bin .pow (.cn (.int 10)) (.cn (.int 12))) .nil))) (.cons (.lst (.cons (.cn (.bool true)) .nil)) (.cons (.lst (.cons (.cn (.int 1)) (.cons (.cn (.int 1)) .nil))) (.cons (.lst (.cons (.cn (.int 2)) (.cons (.cn (.int 1)) .nil))) .nil)))))))))))))))))))) .no [6]))
   (.cons (.ret (.cmp .nin (.cn (.bool false)) (.var 2)))
   .nil)))
def fn21 : Fn := ⟨7, 1, [false], b21⟩
def nm21 : List Str := ["script", "index", "due", "generator", "turn", "numbers", "value"]
def ps21 : List Str := ["script"]
def fns : List Fn := [fn0, fn1, fn2, fn3, fn4, fn5, fn6, fn7, fn8, fn9, fn10, fn11, fn12, fn13, fn14, fn15, fn16, fn17, fn18, fn19, fn20, fn21]
def tbl (i : Nat) : Option Fn := fns[i]?
def shps : List Shape := [⟨0, [some 0]⟩, ⟨2, [some 0, some 1]⟩, ⟨1, [some 0]⟩, ⟨4, [some 0]⟩, ⟨8, [some 0, some 1]⟩, ⟨7, [some 0, some 1]⟩, ⟨10, [some 0, some 1]⟩, ⟨12, [some 0]⟩, ⟨13, [some 0, some 1]⟩, ⟨11, [some 0, some 1]⟩, ⟨3, [some 0]⟩, ⟨5, [some 0]⟩, ⟨6, [some 0]⟩, ⟨3, [some 0]⟩, ⟨5, [some 0]⟩, ⟨6, [some 0]⟩, ⟨16, [some 0]⟩, ⟨17, [some 0]⟩, ⟨20, [some 0]⟩, ⟨15, [some 0]⟩, ⟨18, [some 0]⟩, ⟨14, [some 0]⟩, ⟨19, [some 0]⟩, ⟨9, [some 0, some 1]⟩, ⟨21, [some 0]⟩]
def css : List (Str × Nat × List Str) := [("is_whole", 1, []), ("is_signs", 2, []), ("is_count", 1, []), ("ascends", 1, []), ("_law_cell", 2, []), ("_law_hash", 2, []), ("_law_random", 2, []), ("_law_copied", 1, []), ("_law_exact", 2, []), ("_law_pick", 2, []), ("is_name", 0, ["value"]), ("is_day", 0, ["value"]), ("is_lot", 0, ["value"]), ("is_name", 1, []), ("is_day", 1, []), ("is_lot", 1, []), ("_law_name", 1, []), ("_law_lot", 1, []), ("_law_judged", 1, []), ("_law_any", 1, []), ("_law_string", 1, []), ("_law_unlike", 1, []), ("_law_numbers", 1, []), ("_law_generator", 2, []), ("law", 1, [])]
def gcs : List PyData := [(.str "abcdefghijklmnopqrstuvwxyz"), (.str "0123456789"), (.int 8)]
def gns : List Str := ["SMALL", "FIGURES", "MOST_NAME"]
def theG : Cf := ⟨fun i => (fns.getD i ⟨0, 0, [], .nil⟩).modes, 100000, fun k => gcs.getD k .none, fun k => shps.getD k ⟨0, []⟩⟩
def theD : Ck := ⟨fun k => css[k]?, fun k => gns[k]?⟩
/-! ### what the tables hold -/
theorem md0 : theG.modes 0 = [false] := by kernel_rfl
theorem md1 : theG.modes 1 = [false] := by kernel_rfl
theorem md2 : theG.modes 2 = [false, false] := by kernel_rfl
theorem md3 : theG.modes 3 = [false] := by kernel_rfl
theorem md4 : theG.modes 4 = [false] := by kernel_rfl
theorem md5 : theG.modes 5 = [false] := by kernel_rfl
theorem md6 : theG.modes 6 = [false] := by kernel_rfl
theorem md7 : theG.modes 7 = [false, false] := by kernel_rfl
theorem md8 : theG.modes 8 = [false, false] := by kernel_rfl
theorem md9 : theG.modes 9 = [false, false] := by kernel_rfl
theorem md10 : theG.modes 10 = [true, false] := by kernel_rfl
theorem md11 : theG.modes 11 = [true, false] := by kernel_rfl
theorem md12 : theG.modes 12 = [false] := by kernel_rfl
theorem md13 : theG.modes 13 = [false, false] := by kernel_rfl
theorem md14 : theG.modes 14 = [false] := by kernel_rfl
theorem md15 : theG.modes 15 = [true] := by kernel_rfl
theorem md16 : theG.modes 16 = [false] := by kernel_rfl
theorem md17 : theG.modes 17 = [false] := by kernel_rfl
theorem md18 : theG.modes 18 = [true] := by kernel_rfl
theorem md19 : theG.modes 19 = [true] := by kernel_rfl
theorem md20 : theG.modes 20 = [false] := by kernel_rfl
theorem md21 : theG.modes 21 = [false] := by kernel_rfl
theorem sh0 : theG.shapes 0 = ⟨0, [some 0]⟩ := by kernel_rfl
theorem sh1 : theG.shapes 1 = ⟨2, [some 0, some 1]⟩ := by kernel_rfl
theorem sh2 : theG.shapes 2 = ⟨1, [some 0]⟩ := by kernel_rfl
theorem sh3 : theG.shapes 3 = ⟨4, [some 0]⟩ := by kernel_rfl
theorem sh4 : theG.shapes 4 = ⟨8, [some 0, some 1]⟩ := by kernel_rfl
theorem sh5 : theG.shapes 5 = ⟨7, [some 0, some 1]⟩ := by kernel_rfl
theorem sh6 : theG.shapes 6 = ⟨10, [some 0, some 1]⟩ := by kernel_rfl
theorem sh7 : theG.shapes 7 = ⟨12, [some 0]⟩ := by kernel_rfl
theorem sh8 : theG.shapes 8 = ⟨13, [some 0, some 1]⟩ := by kernel_rfl
theorem sh9 : theG.shapes 9 = ⟨11, [some 0, some 1]⟩ := by kernel_rfl
theorem sh10 : theG.shapes 10 = ⟨3, [some 0]⟩ := by kernel_rfl
theorem sh11 : theG.shapes 11 = ⟨5, [some 0]⟩ := by kernel_rfl
theorem sh12 : theG.shapes 12 = ⟨6, [some 0]⟩ := by kernel_rfl
theorem sh13 : theG.shapes 13 = ⟨3, [some 0]⟩ := by kernel_rfl
theorem sh14 : theG.shapes 14 = ⟨5, [some 0]⟩ := by kernel_rfl
theorem sh15 : theG.shapes 15 = ⟨6, [some 0]⟩ := by kernel_rfl
theorem sh16 : theG.shapes 16 = ⟨16, [some 0]⟩ := by kernel_rfl
theorem sh17 : theG.shapes 17 = ⟨17, [some 0]⟩ := by kernel_rfl
theorem sh18 : theG.shapes 18 = ⟨20, [some 0]⟩ := by kernel_rfl
theorem sh19 : theG.shapes 19 = ⟨15, [some 0]⟩ := by kernel_rfl
theorem sh20 : theG.shapes 20 = ⟨18, [some 0]⟩ := by kernel_rfl
theorem sh21 : theG.shapes 21 = ⟨14, [some 0]⟩ := by kernel_rfl
theorem sh22 : theG.shapes 22 = ⟨19, [some 0]⟩ := by kernel_rfl
theorem sh23 : theG.shapes 23 = ⟨9, [some 0, some 1]⟩ := by kernel_rfl
theorem sh24 : theG.shapes 24 = ⟨21, [some 0]⟩ := by kernel_rfl
theorem gc0 : theG.gc 0 = (.str "abcdefghijklmnopqrstuvwxyz") := by kernel_rfl
theorem gc1 : theG.gc 1 = (.str "0123456789") := by kernel_rfl
theorem gc2 : theG.gc 2 = (.int 8) := by kernel_rfl
/-! ### the head -/
def d0 : He.DefD := ⟨("is_whole", none), "is_whole", "is_whole", defArgs (topS 4), defBody (topS 4), defScope (topS 4), [], []⟩
def d1 : He.DefD := ⟨("is_count", none), "is_count", "is_count", defArgs (topS 5), defBody (topS 5), defScope (topS 5), [], []⟩
def d2 : He.DefD := ⟨("is_signs", none), "is_signs", "is_signs", defArgs (topS 6), defBody (topS 6), defScope (topS 6), [], []⟩
def d3 : He.DefD := ⟨("is_name", none), "is_name", "is_name", defArgs (topS 7), defBody (topS 7), defScope (topS 7), [], []⟩
def d4 : He.DefD := ⟨("ascends", none), "ascends", "ascends", defArgs (topS 8), defBody (topS 8), defScope (topS 8), [], []⟩
def d5 : He.DefD := ⟨("is_day", none), "is_day", "is_day", defArgs (topS 9), defBody (topS 9), defScope (topS 9), [], []⟩
def d6 : He.DefD := ⟨("is_lot", none), "is_lot", "is_lot", defArgs (topS 10), defBody (topS 10), defScope (topS 10), [], []⟩
def d7 : He.DefD := ⟨("_law_hash", none), "_law_hash", "_law_hash", defArgs (topS 12), defBody (topS 12), defScope (topS 12), [], []⟩
def d8 : He.DefD := ⟨("_law_cell", none), "_law_cell", "_law_cell", defArgs (topS 13), defBody (topS 13), defScope (topS 13), [], []⟩
def d9 : He.DefD := ⟨("_law_generator", none), "_law_generator", "_law_generator", defArgs (topS 14), defBody (topS 14), defScope (topS 14), [], []⟩
def d10 : He.DefD := ⟨("_law_random", none), "_law_random", "_law_random", defArgs (topS 15), defBody (topS 15), defScope (topS 15), [], []⟩
def d11 : He.DefD := ⟨("_law_pick", none), "_law_pick", "_law_pick", defArgs (topS 16), defBody (topS 16), defScope (topS 16), [], []⟩
def d12 : He.DefD := ⟨("_law_copied", none), "_law_copied", "_law_copied", defArgs (topS 17), defBody (topS 17), defScope (topS 17), [], []⟩
def d13 : He.DefD := ⟨("_law_exact", none), "_law_exact", "_law_exact", defArgs (topS 18), defBody (topS 18), defScope (topS 18), [], []⟩
def d14 : He.DefD := ⟨("_law_unlike", none), "_law_unlike", "_law_unlike", defArgs (topS 19), defBody (topS 19), defScope (topS 19), [], []⟩
def d15 : He.DefD := ⟨("_law_any", none), "_law_any", "_law_any", defArgs (topS 20), defBody (topS 20), defScope (topS 20), [], []⟩
def d16 : He.DefD := ⟨("_law_name", none), "_law_name", "_law_name", defArgs (topS 21), defBody (topS 21), defScope (topS 21), [], []⟩
def d17 : He.DefD := ⟨("_law_lot", none), "_law_lot", "_law_lot", defArgs (topS 22), defBody (topS 22), defScope (topS 22), [], []⟩
def d18 : He.DefD := ⟨("_law_string", none), "_law_string", "_law_string", defArgs (topS 23), defBody (topS 23), defScope (topS 23), [], []⟩
def d19 : He.DefD := ⟨("_law_numbers", none), "_law_numbers", "_law_numbers", defArgs (topS 24), defBody (topS 24), defScope (topS 24), [], []⟩
def d20 : He.DefD := ⟨("_law_judged", none), "_law_judged", "_law_judged", defArgs (topS 25), defBody (topS 25), defScope (topS 25), [], []⟩
def d21 : He.DefD := ⟨("law", none), "law", "law", defArgs (topS 26), defBody (topS 26), defScope (topS 26), [], []⟩
def dfs : List He.DefD := [d0, d1, d2, d3, d4, d5, d6, d7, d8, d9, d10, d11, d12, d13, d14, d15, d16, d17, d18, d19, d20, d21]
def fas : List He.Fa := [.glo "is_whole", .glo "is_count", .glo "is_signs", .glo "is_name", .glo "ascends", .glo "is_day", .glo "is_lot", .glo "_law_hash", .glo "_law_cell", .glo "_law_generator", .glo "_law_random", .glo "_law_pick", .glo "_law_copied", .glo "_law_exact", .glo "_law_unlike", .glo "_law_any", .glo "_law_name", .glo "_law_lot", .glo "_law_string", .glo "_law_numbers", .glo "_law_judged", .glo "law", .free "len", .free "abs", .free "max", .free "min", .free "int", .free "bool", .free "str", .free "list", .free "tuple", .free "sum", .free "sorted", .free "any", .free "all", .free "repr", .free "range", .free "enumerate", .free "zip", .free "isinstance", .free "dict", .free "set", .str "SMALL" "abcdefghijklmnopqrstuvwxyz", .str "FIGURES" "0123456789", .int "MOST_NAME" 8]
/-! ### the scopes, the checks -/
theorem sc0 : FnScope nm0 ps0 (defScope (topS 4)) := ⟨rfl, rfl, rfl, by decide +kernel, rfl, by decide +kernel, by decide +kernel⟩
theorem ck0 : chkSs theD nm0 (defScope (topS 4)) (kpOf fn0.modes fn0.np) fn0.body (defBody (topS 4)) = true := by decide +kernel
theorem sc1 : FnScope nm1 ps1 (defScope (topS 5)) := ⟨rfl, rfl, rfl, by decide +kernel, rfl, by decide +kernel, by decide +kernel⟩
theorem ck1 : chkSs theD nm1 (defScope (topS 5)) (kpOf fn1.modes fn1.np) fn1.body (defBody (topS 5)) = true := by decide +kernel
theorem sc2 : FnScope nm2 ps2 (defScope (topS 6)) := ⟨rfl, rfl, rfl, by decide +kernel, rfl, by decide +kernel, by decide +kernel⟩
theorem ck2 : chkSs theD nm2 (defScope (topS 6)) (kpOf fn2.modes fn2.np) fn2.body (defBody (topS 6)) = true := by decide +kernel
theorem sc3 : FnScope nm3 ps3 (defScope (topS 7)) := ⟨rfl, rfl, rfl, by decide +kernel, rfl, by decide +kernel, by decide +kernel⟩
theorem ck3 : chkSs theD nm3 (defScope (topS 7)) (kpOf fn3.modes fn3.np) fn3.body (defBody (topS 7)) = true := by decide +kernel
theorem sc4 : FnScope nm4 ps4 (defScope (topS 8)) := ⟨rfl, rfl, rfl, by decide +kernel, rfl, by decide +kernel, by decide +kernel⟩
theorem ck4 : chkSs theD nm4 (defScope (topS 8)) (kpOf fn4.modes fn4.np) fn4.body (defBody (topS 8)) = true := by decide +kernel
theorem sc5 : FnScope nm5 ps5 (defScope (topS 9)) := ⟨rfl, rfl, rfl, by decide +kernel, rfl, by decide +kernel, by decide +kernel⟩
theorem ck5 : chkSs theD nm5 (defScope (topS 9)) (kpOf fn5.modes fn5.np) fn5.body (defBody (topS 9)) = true := by decide +kernel
theorem sc6 : FnScope nm6 ps6 (defScope (topS 10)) := ⟨rfl, rfl, rfl, by decide +kernel, rfl, by decide +kernel, by decide +kernel⟩
theorem ck6 : chkSs theD nm6 (defScope (topS 10)) (kpOf fn6.modes fn6.np) fn6.body (defBody (topS 10)) = true := by decide +kernel
theorem sc7 : FnScope nm7 ps7 (defScope (topS 12)) := ⟨rfl, rfl, rfl, by decide +kernel, rfl, by decide +kernel, by decide +kernel⟩
theorem ck7 : chkSs theD nm7 (defScope (topS 12)) (kpOf fn7.modes fn7.np) fn7.body (defBody (topS 12)) = true := by decide +kernel
theorem sc8 : FnScope nm8 ps8 (defScope (topS 13)) := ⟨rfl, rfl, rfl, by decide +kernel, rfl, by decide +kernel, by decide +kernel⟩
theorem ck8 : chkSs theD nm8 (defScope (topS 13)) (kpOf fn8.modes fn8.np) fn8.body (defBody (topS 13)) = true := by decide +kernel
theorem sc9 : FnScope nm9 ps9 (defScope (topS 14)) := ⟨rfl, rfl, rfl, by decide +kernel, rfl, by decide +kernel, by decide +kernel⟩
theorem ck9 : chkSs theD nm9 (defScope (topS 14)) (kpOf fn9.modes fn9.np) fn9.body (defBody (topS 14)) = true := by decide +kernel
theorem sc10 : FnScope nm10 ps10 (defScope (topS 15)) := ⟨rfl, rfl, rfl, by decide +kernel, rfl, by decide +kernel, by decide +kernel⟩
theorem ck10 : chkSs theD nm10 (defScope (topS 15)) (kpOf fn10.modes fn10.np) fn10.body (defBody (topS 15)) = true := by decide +kernel
theorem sc11 : FnScope nm11 ps11 (defScope (topS 16)) := ⟨rfl, rfl, rfl, by decide +kernel, rfl, by decide +kernel, by decide +kernel⟩
theorem ck11 : chkSs theD nm11 (defScope (topS 16)) (kpOf fn11.modes fn11.np) fn11.body (defBody (topS 16)) = true := by decide +kernel
theorem sc12 : FnScope nm12 ps12 (defScope (topS 17)) := ⟨rfl, rfl, rfl, by decide +kernel, rfl, by decide +kernel, by decide +kernel⟩
theorem ck12 : chkSs theD nm12 (defScope (topS 17)) (kpOf fn12.modes fn12.np) fn12.body (defBody (topS 17)) = true := by decide +kernel
theorem sc13 : FnScope nm13 ps13 (defScope (topS 18)) := ⟨rfl, rfl, rfl, by decide +kernel, rfl, by decide +kernel, by decide +kernel⟩
theorem ck13 : chkSs theD nm13 (defScope (topS 18)) (kpOf fn13.modes fn13.np) fn13.body (defBody (topS 18)) = true := by decide +kernel
theorem sc14 : FnScope nm14 ps14 (defScope (topS 19)) := ⟨rfl, rfl, rfl, by decide +kernel, rfl, by decide +kernel, by decide +kernel⟩
theorem ck14 : chkSs theD nm14 (defScope (topS 19)) (kpOf fn14.modes fn14.np) fn14.body (defBody (topS 19)) = true := by decide +kernel
theorem sc15 : FnScope nm15 ps15 (defScope (topS 20)) := ⟨rfl, rfl, rfl, by decide +kernel, rfl, by decide +kernel, by decide +kernel⟩
theorem ck15 : chkSs theD nm15 (defScope (topS 20)) (kpOf fn15.modes fn15.np) fn15.body (defBody (topS 20)) = true := by decide +kernel
theorem sc16 : FnScope nm16 ps16 (defScope (topS 21)) := ⟨rfl, rfl, rfl, by decide +kernel, rfl, by decide +kernel, by decide +kernel⟩
theorem ck16 : chkSs theD nm16 (defScope (topS 21)) (kpOf fn16.modes fn16.np) fn16.body (defBody (topS 21)) = true := by decide +kernel
theorem sc17 : FnScope nm17 ps17 (defScope (topS 22)) := ⟨rfl, rfl, rfl, by decide +kernel, rfl, by decide +kernel, by decide +kernel⟩
theorem ck17 : chkSs theD nm17 (defScope (topS 22)) (kpOf fn17.modes fn17.np) fn17.body (defBody (topS 22)) = true := by decide +kernel
theorem sc18 : FnScope nm18 ps18 (defScope (topS 23)) := ⟨rfl, rfl, rfl, by decide +kernel, rfl, by decide +kernel, by decide +kernel⟩
theorem ck18 : chkSs theD nm18 (defScope (topS 23)) (kpOf fn18.modes fn18.np) fn18.body (defBody (topS 23)) = true := by decide +kernel
theorem sc19 : FnScope nm19 ps19 (defScope (topS 24)) := ⟨rfl, rfl, rfl, by decide +kernel, rfl, by decide +kernel, by decide +kernel⟩
theorem ck19 : chkSs theD nm19 (defScope (topS 24)) (kpOf fn19.modes fn19.np) fn19.body (defBody (topS 24)) = true := by decide +kernel
theorem sc20 : FnScope nm20 ps20 (defScope (topS 25)) := ⟨rfl, rfl, rfl, by decide +kernel, rfl, by decide +kernel, by decide +kernel⟩
theorem ck20 : chkSs theD nm20 (defScope (topS 25)) (kpOf fn20.modes fn20.np) fn20.body (defBody (topS 25)) = true := by decide +kernel
theorem sc21 : FnScope nm21 ps21 (defScope (topS 26)) := ⟨rfl, rfl, rfl, by decide +kernel, rfl, by decide +kernel, by decide +kernel⟩
theorem ck21 : chkSs theD nm21 (defScope (topS 26)) (kpOf fn21.modes fn21.np) fn21.body (defBody (topS 26)) = true := by decide +kernel
section
variable {K : PySem.W.Frag} {h : Heap} {mg : Str → Option Value}
theorem defs (X : K.In h) (Gm : h.Ns mainGlobals mg) (c : He.SaysD fas dfs K) : ∀ k x n ks, theD.cs k = some (x, n, ks) → DefOk K mg theD theG tbl k x n ks := by
  intro k x n ks hk
  cases k with
  | zero =>
    cases hk
    obtain ⟨fd, F⟩ := c.def_ 0 (d := d0) rfl
    exact defOk_of (N := nm0) (ps := ps0) (fn := fn0) F sc0 (He.glo_ok X Gm (c.fact 0 (f := .glo "is_whole") rfl)) (fun _ _ _ _ _ _ us ws h1 h2 => match us, ws, h1, h2 with | [_], [], _, _ => rfl) rfl rfl rfl rfl ck0
  | succ k =>
  cases k with
  | zero =>
    cases hk
    obtain ⟨fd, F⟩ := c.def_ 2 (d := d2) rfl
    exact defOk_of (N := nm2) (ps := ps2) (fn := fn2) F sc2 (He.glo_ok X Gm (c.fact 2 (f := .glo "is_signs") rfl)) (fun _ _ _ _ _ _ us ws h1 h2 => match us, ws, h1, h2 with | [_, _], [], _, _ => rfl) rfl rfl rfl rfl ck2
  | succ k =>
  cases k with
  | zero =>
    cases hk
    obtain ⟨fd, F⟩ := c.def_ 1 (d := d1) rfl
    exact defOk_of (N := nm1) (ps := ps1) (fn := fn1) F sc1 (He.glo_ok X Gm (c.fact 1 (f := .glo "is_count") rfl)) (fun _ _ _ _ _ _ us ws h1 h2 => match us, ws, h1, h2 with | [_], [], _, _ => rfl) rfl rfl rfl rfl ck1
  | succ k =>
  cases k with
  | zero =>
    cases hk
    obtain ⟨fd, F⟩ := c.def_ 4 (d := d4) rfl
    exact defOk_of (N := nm4) (ps := ps4) (fn := fn4) F sc4 (He.glo_ok X Gm (c.fact 4 (f := .glo "ascends") rfl)) (fun _ _ _ _ _ _ us ws h1 h2 => match us, ws, h1, h2 with | [_], [], _, _ => rfl) rfl rfl rfl rfl ck4
  | succ k =>
  cases k with
  | zero =>
    cases hk
    obtain ⟨fd, F⟩ := c.def_ 8 (d := d8) rfl
    exact defOk_of (N := nm8) (ps := ps8) (fn := fn8) F sc8 (He.glo_ok X Gm (c.fact 8 (f := .glo "_law_cell") rfl)) (fun _ _ _ _ _ _ us ws h1 h2 => match us, ws, h1, h2 with | [_, _], [], _, _ => rfl) rfl rfl rfl rfl ck8
  | succ k =>
  cases k with
  | zero =>
    cases hk
    obtain ⟨fd, F⟩ := c.def_ 7 (d := d7) rfl
    exact defOk_of (N := nm7) (ps := ps7) (fn := fn7) F sc7 (He.glo_ok X Gm (c.fact 7 (f := .glo "_law_hash") rfl)) (fun _ _ _ _ _ _ us ws h1 h2 => match us, ws, h1, h2 with | [_, _], [], _, _ => rfl) rfl rfl rfl rfl ck7
  | succ k =>
  cases k with
  | zero =>
    cases hk
    obtain ⟨fd, F⟩ := c.def_ 10 (d := d10) rfl
    exact defOk_of (N := nm10) (ps := ps10) (fn := fn10) F sc10 (He.glo_ok X Gm (c.fact 10 (f := .glo "_law_random") rfl)) (fun _ _ _ _ _ _ us ws h1 h2 => match us, ws, h1, h2 with | [_, _], [], _, _ => rfl) rfl rfl rfl rfl ck10
  | succ k =>
  cases k with
  | zero =>
    cases hk
    obtain ⟨fd, F⟩ := c.def_ 12 (d := d12) rfl
    exact defOk_of (N := nm12) (ps := ps12) (fn := fn12) F sc12 (He.glo_ok X Gm (c.fact 12 (f := .glo "_law_copied") rfl)) (fun _ _ _ _ _ _ us ws h1 h2 => match us, ws, h1, h2 with | [_], [], _, _ => rfl) rfl rfl rfl rfl ck12
  | succ k =>
  cases k with
  | zero =>
    cases hk
    obtain ⟨fd, F⟩ := c.def_ 13 (d := d13) rfl
    exact defOk_of (N := nm13) (ps := ps13) (fn := fn13) F sc13 (He.glo_ok X Gm (c.fact 13 (f := .glo "_law_exact") rfl)) (fun _ _ _ _ _ _ us ws h1 h2 => match us, ws, h1, h2 with | [_, _], [], _, _ => rfl) rfl rfl rfl rfl ck13
  | succ k =>
  cases k with
  | zero =>
    cases hk
    obtain ⟨fd, F⟩ := c.def_ 11 (d := d11) rfl
    exact defOk_of (N := nm11) (ps := ps11) (fn := fn11) F sc11 (He.glo_ok X Gm (c.fact 11 (f := .glo "_law_pick") rfl)) (fun _ _ _ _ _ _ us ws h1 h2 => match us, ws, h1, h2 with | [_, _], [], _, _ => rfl) rfl rfl rfl rfl ck11
  | succ k =>
  cases k with
  | zero =>
    cases hk
    obtain ⟨fd, F⟩ := c.def_ 3 (d := d3) rfl
    exact defOk_of (N := nm3) (ps := ps3) (fn := fn3) F sc3 (He.glo_ok X Gm (c.fact 3 (f := .glo "is_name") rfl)) (fun _ _ _ _ _ _ us ws h1 h2 => match us, ws, h1, h2 with | [], [_], _, _ => rfl) rfl rfl rfl rfl ck3
  | succ k =>
  cases k with
  | zero =>
    cases hk
    obtain ⟨fd, F⟩ := c.def_ 5 (d := d5) rfl
    exact defOk_of (N := nm5) (ps := ps5) (fn := fn5) F sc5 (He.glo_ok X Gm (c.fact 5 (f := .glo "is_day") rfl)) (fun _ _ _ _ _ _ us ws h1 h2 => match us, ws, h1, h2 with | [], [_], _, _ => rfl) rfl rfl rfl rfl ck5
  | succ k =>
  cases k with
  | zero =>
    cases hk
    obtain ⟨fd, F⟩ := c.def_ 6 (d := d6) rfl
    exact defOk_of (N := nm6) (ps := ps6) (fn := fn6) F sc6 (He.glo_ok X Gm (c.fact 6 (f := .glo "is_lot") rfl)) (fun _ _ _ _ _ _ us ws h1 h2 => match us, ws, h1, h2 with | [], [_], _, _ => rfl) rfl rfl rfl rfl ck6
  | succ k =>
  cases k with
  | zero =>
    cases hk
    obtain ⟨fd, F⟩ := c.def_ 3 (d := d3) rfl
    exact defOk_of (N := nm3) (ps := ps3) (fn := fn3) F sc3 (He.glo_ok X Gm (c.fact 3 (f := .glo "is_name") rfl)) (fun _ _ _ _ _ _ us ws h1 h2 => match us, ws, h1, h2 with | [_], [], _, _ => rfl) rfl rfl rfl rfl ck3
  | succ k =>
  cases k with
  | zero =>
    cases hk
    obtain ⟨fd, F⟩ := c.def_ 5 (d := d5) rfl
    exact defOk_of (N := nm5) (ps := ps5) (fn := fn5) F sc5 (He.glo_ok X Gm (c.fact 5 (f := .glo "is_day") rfl)) (fun _ _ _ _ _ _ us ws h1 h2 => match us, ws, h1, h2 with | [_], [], _, _ => rfl) rfl rfl rfl rfl ck5
  | succ k =>
  cases k with
  | zero =>
    cases hk
    obtain ⟨fd, F⟩ := c.def_ 6 (d := d6) rfl
    exact defOk_of (N := nm6) (ps := ps6) (fn := fn6) F sc6 (He.glo_ok X Gm (c.fact 6 (f := .glo "is_lot") rfl)) (fun _ _ _ _ _ _ us ws h1 h2 => match us, ws, h1, h2 with | [_], [], _, _ => rfl) rfl rfl rfl rfl ck6
  | succ k =>
  cases k with
  | zero =>
    cases hk
    obtain ⟨fd, F⟩ := c.def_ 16 (d := d16) rfl
    exact defOk_of (N := nm16) (ps := ps16) (fn := fn16) F sc16 (He.glo_ok X Gm (c.fact 16 (f := .glo "_law_name") rfl)) (fun _ _ _ _ _ _ us ws h1 h2 => match us, ws, h1, h2 with | [_], [], _, _ => rfl) rfl rfl rfl rfl ck16
  | succ k =>
  cases k with
  | zero =>
    cases hk
    obtain ⟨fd, F⟩ := c.def_ 17 (d := d17) rfl
    exact defOk_of (N := nm17) (ps := ps17) (fn := fn17) F sc17 (He.glo_ok X Gm (c.fact 17 (f := .glo "_law_lot") rfl)) (fun _ _ _ _ _ _ us ws h1 h2 => match us, ws, h1, h2 with | [_], [], _, _ => rfl) rfl rfl rfl rfl ck17
  | succ k =>
  cases k with
  | zero =>
    cases hk
    obtain ⟨fd, F⟩ := c.def_ 20 (d := d20) rfl
    exact defOk_of (N := nm20) (ps := ps20) (fn := fn20) F sc20 (He.glo_ok X Gm (c.fact 20 (f := .glo "_law_judged") rfl)) (fun _ _ _ _ _ _ us ws h1 h2 => match us, ws, h1, h2 with | [_], [], _, _ => rfl) rfl rfl rfl rfl ck20
  | succ k =>
  cases k with
  | zero =>
    cases hk
    obtain ⟨fd, F⟩ := c.def_ 15 (d := d15) rfl
    exact defOk_of (N := nm15) (ps := ps15) (fn := fn15) F sc15 (He.glo_ok X Gm (c.fact 15 (f := .glo "_law_any") rfl)) (fun _ _ _ _ _ _ us ws h1 h2 => match us, ws, h1, h2 with | [_], [], _, _ => rfl) rfl rfl rfl rfl ck15
  | succ k =>
  cases k with
  | zero =>
    cases hk
    obtain ⟨fd, F⟩ := c.def_ 18 (d := d18) rfl
    exact defOk_of (N := nm18) (ps := ps18) (fn := fn18) F sc18 (He.glo_ok X Gm (c.fact 18 (f := .glo "_law_string") rfl)) (fun _ _ _ _ _ _ us ws h1 h2 => match us, ws, h1, h2 with | [_], [], _, _ => rfl) rfl rfl rfl rfl ck18
  | succ k =>
  cases k with
  | zero =>
    cases hk
    obtain ⟨fd, F⟩ := c.def_ 14 (d := d14) rfl
    exact defOk_of (N := nm14) (ps := ps14) (fn := fn14) F sc14 (He.glo_ok X Gm (c.fact 14 (f := .glo "_law_unlike") rfl)) (fun _ _ _ _ _ _ us ws h1 h2 => match us, ws, h1, h2 with | [_], [], _, _ => rfl) rfl rfl rfl rfl ck14
  | succ k =>
  cases k with
  | zero =>
    cases hk
    obtain ⟨fd, F⟩ := c.def_ 19 (d := d19) rfl
    exact defOk_of (N := nm19) (ps := ps19) (fn := fn19) F sc19 (He.glo_ok X Gm (c.fact 19 (f := .glo "_law_numbers") rfl)) (fun _ _ _ _ _ _ us ws h1 h2 => match us, ws, h1, h2 with | [_], [], _, _ => rfl) rfl rfl rfl rfl ck19
  | succ k =>
  cases k with
  | zero =>
    cases hk
    obtain ⟨fd, F⟩ := c.def_ 9 (d := d9) rfl
    exact defOk_of (N := nm9) (ps := ps9) (fn := fn9) F sc9 (He.glo_ok X Gm (c.fact 9 (f := .glo "_law_generator") rfl)) (fun _ _ _ _ _ _ us ws h1 h2 => match us, ws, h1, h2 with | [_, _], [], _, _ => rfl) rfl rfl rfl rfl ck9
  | succ k =>
  cases k with
  | zero =>
    cases hk
    obtain ⟨fd, F⟩ := c.def_ 21 (d := d21) rfl
    exact defOk_of (N := nm21) (ps := ps21) (fn := fn21) F sc21 (He.glo_ok X Gm (c.fact 21 (f := .glo "law") rfl)) (fun _ _ _ _ _ _ us ws h1 h2 => match us, ws, h1, h2 with | [_], [], _, _ => rfl) rfl rfl rfl rfl ck21
  | succ k =>
  exact nomatch (show (none : Option (Str × Nat × List Str)) = some (x, n, ks) from hk)
theorem modg {P : Program} {w : World} {base : Heap} (X : K.In h) (Gm : h.Ns mainGlobals mg) (c : He.SaysD fas dfs K) (hs : ∃ o, base.get? sysModules = some o) : ModG P w K mg base theD theG := by
  refine ⟨fun x hx => ?_, fun k x hk => ?_, hs⟩
  · simp only [bltNames, List.mem_cons, List.not_mem_nil, or_false] at hx
    rcases hx with rfl | rfl | rfl | rfl | rfl | rfl | rfl | rfl | rfl | rfl | rfl | rfl | rfl | rfl | rfl | rfl | rfl | rfl | rfl | rfl
    · exact He.free_ok X Gm (c.fact 22 (f := .free "len") rfl)
    · exact He.free_ok X Gm (c.fact 23 (f := .free "abs") rfl)
    · exact He.free_ok X Gm (c.fact 24 (f := .free "max") rfl)
    · exact He.free_ok X Gm (c.fact 25 (f := .free "min") rfl)
    · exact He.free_ok X Gm (c.fact 26 (f := .free "int") rfl)
    · exact He.free_ok X Gm (c.fact 27 (f := .free "bool") rfl)
    · exact He.free_ok X Gm (c.fact 28 (f := .free "str") rfl)
    · exact He.free_ok X Gm (c.fact 29 (f := .free "list") rfl)
    · exact He.free_ok X Gm (c.fact 30 (f := .free "tuple") rfl)
    · exact He.free_ok X Gm (c.fact 31 (f := .free "sum") rfl)
    · exact He.free_ok X Gm (c.fact 32 (f := .free "sorted") rfl)
    · exact He.free_ok X Gm (c.fact 33 (f := .free "any") rfl)
    · exact He.free_ok X Gm (c.fact 34 (f := .free "all") rfl)
    · exact He.free_ok X Gm (c.fact 35 (f := .free "repr") rfl)
    · exact He.free_ok X Gm (c.fact 36 (f := .free "range") rfl)
    · exact He.free_ok X Gm (c.fact 37 (f := .free "enumerate") rfl)
    · exact He.free_ok X Gm (c.fact 38 (f := .free "zip") rfl)
    · exact He.free_ok X Gm (c.fact 39 (f := .free "isinstance") rfl)
    · exact He.free_ok X Gm (c.fact 40 (f := .free "dict") rfl)
    · exact He.free_ok X Gm (c.fact 41 (f := .free "set") rfl)
  · cases k with
    | zero =>
      cases hk
      obtain ⟨t, e⟩ := He.str_ok X Gm (c.fact 42 (f := .str "SMALL" "abcdefghijklmnopqrstuvwxyz") rfl)
      exact ⟨_, .str "abcdefghijklmnopqrstuvwxyz", e, ⟨t, rfl⟩, by show DR K _ (.str "abcdefghijklmnopqrstuvwxyz") _; unfold DR; rfl⟩
    | succ k =>
    cases k with
    | zero =>
      cases hk
      obtain ⟨t, e⟩ := He.str_ok X Gm (c.fact 43 (f := .str "FIGURES" "0123456789") rfl)
      exact ⟨_, .str "0123456789", e, ⟨t, rfl⟩, by show DR K _ (.str "0123456789") _; unfold DR; rfl⟩
    | succ k =>
    cases k with
    | zero =>
      cases hk
      obtain ⟨t, e⟩ := He.int_ok X Gm (c.fact 44 (f := .int "MOST_NAME" 8) rfl)
      exact ⟨_, .int 8, e, ⟨t, rfl⟩, by show DR K _ (.int 8) _; unfold DR; rfl⟩
    | succ k =>
    exact nomatch (show (none : Option Str) = some x from hk)
end
-- law shape 24, law place 26, loose 24
def lo0 : List Str := ["SMALL", "FIGURES", "MOST_NAME", "is_whole", "is_count", "is_signs", "is_name", "ascends", "is_day", "is_lot", "_law_hash", "_law_cell", "_law_generator", "_law_random", "_law_pick", "_law_copied", "_law_exact", "_law_unlike", "_law_any", "_law_name", "_law_lot", "_law_string", "_law_numbers", "_law_judged"]
def lo : List Str := lo0
end PV

namespace PV
open PySem PySem.Spec PyProof.Rows L2
abbrev C (m : Nat) : CF := callN theG tbl m
theorem C_succ (m f : Nat) (as : List Slot) (fn : Fn) (h : fns[f]? = some fn) : C (m + 1) f as = runFn theG fn (C m) as := call_of h
theorem t_hash (m : Nat) (s i : Int) (hi : 0 ≤ i ∧ i < 2 ^ 60) : ∃ v : Int, 0 ≤ v ∧ v < 2147483647 ∧ C (m + 1) 7 [.imm (.int s), .imm (.int i)] = .ok (.imm (.int v)) [.imm (.int s), .imm (.int i)] := by
  refine ⟨((s * 1140671 + 27644437 * i * i + 131 * i + 19) % 2147483629 * ((s * 1140671 + 27644437 * i * i + 131 * i + 19) % 2147483629) + 62089 * i + 32416187) % 2147483587 * 48271 % 2147483647, Int.emod_nonneg _ (by decide), Int.emod_lt_of_pos _ (by decide), ?_⟩
  have h1 : mulOk s 1140671 = true := mulOk_r (by decide)
  have h2 : mulOk 27644437 i = true := mulOk_l (by decide)
  have h3 : mulOk (27644437 * i) i = true := mulOk_r (by omega)
  have h4 : mulOk 131 i = true := mulOk_l (by decide)
  have h5 : mulOk 62089 i = true := mulOk_l (by decide)
  have h6 : mulOk ((s * 1140671 + 27644437 * i * i + 131 * i + 19) % 2147483629) ((s * 1140671 + 27644437 * i * i + 131 * i + 19) % 2147483629) = true := mulOk_l (by omega)
  have h7 : ∀ x : Int, mulOk x 48271 = true := fun x => mulOk_r (by decide)
  have c1 : (0 : Int) < 2147483629 := by decide
  have c2 : (0 : Int) < 2147483587 := by decide
  have c3 : (0 : Int) < 2147483647 := by decide
  rw [C_succ m 7 _ fn7 rfl]
  simp only [↓Out.bind, ↓reduceIte, if_true, if_false, ↓runFn, ↓evSs, ↓evS, ↓evE, ↓evEs, ↓evFs, ↓evT, ↓evO, ↓evI, ↓rdv, Slot.dat, ↓opBin, ↓ofO, ↓ofV, Option.bind_some, Option.bind_none, Option.map_some, Option.map_none, List.map_cons, List.map_nil, List.replicate, List.cons_append, List.nil_append, List.getElem?_cons_zero, List.getElem?_cons_succ, List.getElem?_nil, rdAll, ↓opBi, List.set, ↓fzv, ↓tests, ↓frz, truD, ↓opCmp, ltD, leD, ↓finish, ↓endOf, ↓retV, ↓outsOf, headSlot, isTupS, keepsOff, List.headD_cons, List.headD_nil, List.tail_cons, List.tail_nil, List.length_cons, List.length_nil, Bool.false_eq_true, Nat.reduceAdd, Nat.reduceSub, Nat.zero_add, ↓doCall, apart, ↓slotsOf, slotOf, place, ↓back, List.getD_cons_zero, List.getD_cons_succ, Vl.noVr, Bool.and_true, Bool.true_and, Bool.and_self, Bool.not_false, Bool.not_true, List.zip_cons_cons, List.zip_nil_left, List.any_cons, List.any_nil, vrOf, Bool.or_false, Bool.false_or, Bool.and_false, Bool.false_and, and_self, true_and, Int.reduceToNat, Int.reducePow, Int.reduceLE, Int.reduceMul, reduceCtorEq, decide_false, decide_true, md0, md1, md2, md3, md4, md5, md6, md7, md8, md9, md10, md11, md12, md13, md14, md15, md16, md17, md18, md19, md20, md21, sh0, sh1, sh2, sh3, sh4, sh5, sh6, sh7, sh8, sh9, sh10, sh11, sh12, sh13, sh14, sh15, sh16, sh17, sh18, sh19, sh20, sh21, sh22, sh23, sh24, gc0, gc1, gc2, fn7, b7, h1, h2, h3, h4, h5, h6, h7, c1, c2, c3]
theorem t_cell (m : Nat) (ns : List Int) (i : Nat) : ∃ v : Int, C (m + 1) 8 [.imm (.list (ns.map .int)), .imm (.int i)] = .ok (.imm (.int v)) [.imm (.list (ns.map .int)), .imm (.int i)] := by
  by_cases h : i < ns.length
  · refine ⟨ns[i], ?_⟩
    have h1 : decide ((i : Int) < (ns.map PyData.int).length) = true := by simpa using h
    have h2 : atI (ns.map PyData.int) (i : Int) = some (.int ns[i]) := by rw [atI_nat]; simp [h]
    rw [C_succ m 8 _ fn8 rfl]
    simp only [↓Out.bind, ↓reduceIte, if_true, if_false, ↓runFn, ↓evSs, ↓evS, ↓evE, ↓evEs, ↓evFs, ↓evT, ↓evO, ↓evI, ↓rdv, Slot.dat, ↓opBin, ↓ofO, ↓ofV, Option.bind_some, Option.bind_none, Option.map_some, Option.map_none, List.map_cons, List.map_nil, List.replicate, List.cons_append, List.nil_append, List.getElem?_cons_zero, List.getElem?_cons_succ, List.getElem?_nil, rdAll, ↓opBi, List.set, ↓fzv, ↓tests, ↓frz, truD, ↓opCmp, ltD, leD, ↓finish, ↓endOf, ↓retV, ↓outsOf, headSlot, isTupS, keepsOff, List.headD_cons, List.headD_nil, List.tail_cons, List.tail_nil, List.length_cons, List.length_nil, Bool.false_eq_true, Nat.reduceAdd, Nat.reduceSub, Nat.zero_add, ↓doCall, apart, ↓slotsOf, slotOf, place, ↓back, List.getD_cons_zero, List.getD_cons_succ, Vl.noVr, Bool.and_true, Bool.true_and, Bool.and_self, Bool.not_false, Bool.not_true, List.zip_cons_cons, List.zip_nil_left, List.any_cons, List.any_nil, vrOf, Bool.or_false, Bool.false_or, Bool.and_false, Bool.false_and, and_self, true_and, Int.reduceToNat, Int.reducePow, Int.reduceLE, Int.reduceMul, reduceCtorEq, decide_false, decide_true, md0, md1, md2, md3, md4, md5, md6, md7, md8, md9, md10, md11, md12, md13, md14, md15, md16, md17, md18, md19, md20, md21, sh0, sh1, sh2, sh3, sh4, sh5, sh6, sh7, sh8, sh9, sh10, sh11, sh12, sh13, sh14, sh15, sh16, sh17, sh18, sh19, sh20, sh21, sh22, sh23, sh24, gc0, gc1, gc2, fn8, b8, lenD, subD, h1, h2]
  · have h1 : decide ((i : Int) < (ns.map PyData.int).length) = false := by simpa using h
    have c1 : (0 : Int) < 1000003 := by decide
    refine ⟨(cutD ns none (some 1)).sum % 1000003, ?_⟩
    rw [C_succ m 8 _ fn8 rfl]
    simp only [↓Out.bind, ↓reduceIte, if_true, if_false, ↓runFn, ↓evSs, ↓evS, ↓evE, ↓evEs, ↓evFs, ↓evT, ↓evO, ↓evI, ↓rdv, Slot.dat, ↓opBin, ↓ofO, ↓ofV, Option.bind_some, Option.bind_none, Option.map_some, Option.map_none, List.map_cons, List.map_nil, List.replicate, List.cons_append, List.nil_append, List.getElem?_cons_zero, List.getElem?_cons_succ, List.getElem?_nil, rdAll, ↓opBi, List.set, ↓fzv, ↓tests, ↓frz, truD, ↓opCmp, ltD, leD, ↓finish, ↓endOf, ↓retV, ↓outsOf, headSlot, isTupS, keepsOff, List.headD_cons, List.headD_nil, List.tail_cons, List.tail_nil, List.length_cons, List.length_nil, Bool.false_eq_true, Nat.reduceAdd, Nat.reduceSub, Nat.zero_add, ↓doCall, apart, ↓slotsOf, slotOf, place, ↓back, List.getD_cons_zero, List.getD_cons_succ, Vl.noVr, Bool.and_true, Bool.true_and, Bool.and_self, Bool.not_false, Bool.not_true, List.zip_cons_cons, List.zip_nil_left, List.any_cons, List.any_nil, vrOf, Bool.or_false, Bool.false_or, Bool.and_false, Bool.false_and, and_self, true_and, Int.reduceToNat, Int.reducePow, Int.reduceLE, Int.reduceMul, reduceCtorEq, decide_false, decide_true, md0, md1, md2, md3, md4, md5, md6, md7, md8, md9, md10, md11, md12, md13, md14, md15, md16, md17, md18, md19, md20, md21, sh0, sh1, sh2, sh3, sh4, sh5, sh6, sh7, sh8, sh9, sh10, sh11, sh12, sh13, sh14, sh15, sh16, sh17, sh18, sh19, sh20, sh21, sh22, sh23, sh24, gc0, gc1, gc2, fn8, b8, lenD, subD, h1, sliD, cutD_map, ints_map, c1]
theorem t_gen (m : Nat) (ns : List Int) (i : Nat) : ∃ a b : Int, 0 ≤ a ∧ C (m + 2) 9 [.imm (.list (ns.map .int)), .imm (.int i)] = .ok (.fresh (.list [.int a, .int b, .int (1000 * i)])) [.imm (.list (ns.map .int)), .imm (.int i)] := by
  obtain ⟨v, e⟩ := t_cell m ns i
  have h4 : mulOk 1000 i = true := mulOk_l (by decide)
  have q1 : ((Builtin.Int.intBits 10 : Nat) : Int) = 4 := by decide +kernel
  have q2 : ((Builtin.Int.intBits 1000000000000000000000000000000000000000000000000000000000000 : Nat) : Int) = 200 := by decide +kernel
  have c1 : (0 : Int) < 2147483647 := by decide
  have c2 : (0 : Int) < 1000000000000000000000000000000000000000000000000000000000000000000000000000000000000000000000000000000000000000000000000000000000000000000000000000000000000000000000000000000000000000000000000000000000000000000000000000000000000000000000000000000000000000000000000000000000000000000000000000000000000000000000000000000000000000000000000000000000000000000000000000000000000000000000000000000000000000000000000000000000000000000000000000000000000000000000000000000000000000000000000000000000000000000000000000000000000000000000000000000000000000000000000000000000000000000000000000000000000000000000000 := by decide
  refine ⟨(if (0 : Int) > v - 1000000000000000000 then 0 else v - 1000000000000000000) % 1000000000000000000000000000000000000000000000000000000000000000000000000000000000000000000000000000000000000000000000000000000000000000000000000000000000000000000000000000000000000000000000000000000000000000000000000000000000000000000000000000000000000000000000000000000000000000000000000000000000000000000000000000000000000000000000000000000000000000000000000000000000000000000000000000000000000000000000000000000000000000000000000000000000000000000000000000000000000000000000000000000000000000000000000000000000000000000000000000000000000000000000000000000000000000000000000000000000000000000000000, v % 2147483647, Int.emod_nonneg _ (by decide), ?_⟩
  rw [C_succ (m + 1) 9 _ fn9 rfl]
  simp only [↓Out.bind, ↓reduceIte, if_true, if_false, ↓runFn, ↓evSs, ↓evS, ↓evE, ↓evEs, ↓evFs, ↓evT, ↓evO, ↓evI, ↓rdv, Slot.dat, ↓opBin, ↓ofO, ↓ofV, Option.bind_some, Option.bind_none, Option.map_some, Option.map_none, List.map_cons, List.map_nil, List.replicate, List.cons_append, List.nil_append, List.getElem?_cons_zero, List.getElem?_cons_succ, List.getElem?_nil, rdAll, ↓opBi, List.set, ↓fzv, ↓tests, ↓frz, truD, ↓opCmp, ltD, leD, ↓finish, ↓endOf, ↓retV, ↓outsOf, headSlot, isTupS, keepsOff, List.headD_cons, List.headD_nil, List.tail_cons, List.tail_nil, List.length_cons, List.length_nil, Bool.false_eq_true, Nat.reduceAdd, Nat.reduceSub, Nat.zero_add, ↓doCall, apart, ↓slotsOf, slotOf, place, ↓back, List.getD_cons_zero, List.getD_cons_succ, Vl.noVr, Bool.and_true, Bool.true_and, Bool.and_self, Bool.not_false, Bool.not_true, List.zip_cons_cons, List.zip_nil_left, List.any_cons, List.any_nil, vrOf, Bool.or_false, Bool.false_or, Bool.and_false, Bool.false_and, and_self, true_and, Int.reduceToNat, Int.reducePow, Int.reduceLE, Int.reduceMul, reduceCtorEq, decide_false, decide_true, md0, md1, md2, md3, md4, md5, md6, md7, md8, md9, md10, md11, md12, md13, md14, md15, md16, md17, md18, md19, md20, md21, sh0, sh1, sh2, sh3, sh4, sh5, sh6, sh7, sh8, sh9, sh10, sh11, sh12, sh13, sh14, sh15, sh16, sh17, sh18, sh19, sh20, sh21, sh22, sh23, sh24, gc0, gc1, gc2, fn9, b9, lenD, subD, e, h4, q1, q2, c1, c2]
/-- the generator's state -/
abbrev gsl (a b c : Int) : Slot := .own (.list [.int a, .int b, .int c])
section
theorem ix0 : ixN 3 (0 : Int) = some 0 := by decide
theorem ix2 : ixN 3 (2 : Int) = some 2 := by decide
theorem at0 (x y z : PyData) : atI [x, y, z] (0 : Int) = some x := rfl
theorem at1 (x y z : PyData) : atI [x, y, z] (1 : Int) = some y := rfl
theorem at2 (x y z : PyData) : atI [x, y, z] (2 : Int) = some z := rfl
theorem turn10 (m : Nat) (a b c n d v : Int) (x : Option Slot) (e : C (m + 1) 7 [.imm (.int b), .imm (.int (c + 1))] = .ok (.imm (.int v)) [.imm (.int b), .imm (.int (c + 1))]) :
    evSs theG (C (m + 1)) b10x0 [some (gsl a b c), some (.imm (.int n)), some (.imm (.int d)), x] = .ok .nx [some (gsl a b (c + 1)), some (.imm (.int n)), some (.imm (.int (d * 2147483587 + v))), x] := by
  have k1 : mulOk d 2147483587 = true := mulOk_r (by decide)
  refine ss_nx (s1 := [some (gsl a b (c + 1)), some (.imm (.int n)), some (.imm (.int d)), x]) ?_ (ss_nx ?_ ss_end)
  · simp only [↓Out.bind, ↓reduceIte, if_true, if_false, ↓runFn, ↓evSs, ↓evS, ↓evE, ↓evEs, ↓evFs, ↓evT, ↓evO, ↓evI, ↓rdv, Slot.dat, ↓opBin, ↓ofO, ↓ofV, Option.bind_some, Option.bind_none, Option.map_some, Option.map_none, List.map_cons, List.map_nil, List.replicate, List.cons_append, List.nil_append, List.getElem?_cons_zero, List.getElem?_cons_succ, List.getElem?_nil, rdAll, ↓opBi, List.set, ↓fzv, ↓tests, ↓frz, truD, ↓opCmp, ltD, leD, ↓finish, ↓endOf, ↓retV, ↓outsOf, headSlot, isTupS, keepsOff, List.headD_cons, List.headD_nil, List.tail_cons, List.tail_nil, List.length_cons, List.length_nil, Bool.false_eq_true, Nat.reduceAdd, Nat.reduceSub, Nat.zero_add, ↓doCall, apart, ↓slotsOf, slotOf, place, ↓back, List.getD_cons_zero, List.getD_cons_succ, Vl.noVr, Bool.and_true, Bool.true_and, Bool.and_self, Bool.not_false, Bool.not_true, List.zip_cons_cons, List.zip_nil_left, List.any_cons, List.any_nil, vrOf, Bool.or_false, Bool.false_or, Bool.and_false, Bool.false_and, and_self, true_and, Int.reduceToNat, Int.reducePow, Int.reduceLE, Int.reduceMul, reduceCtorEq, decide_false, decide_true, md0, md1, md2, md3, md4, md5, md6, md7, md8, md9, md10, md11, md12, md13, md14, md15, md16, md17, md18, md19, md20, md21, sh0, sh1, sh2, sh3, sh4, sh5, sh6, sh7, sh8, sh9, sh10, sh11, sh12, sh13, sh14, sh15, sh16, sh17, sh18, sh19, sh20, sh21, sh22, sh23, sh24, gc0, gc1, gc2, subD, at0, at1, at2, isOwn, ix0, ix2]
  · simp only [↓Out.bind, ↓reduceIte, if_true, if_false, ↓runFn, ↓evSs, ↓evS, ↓evE, ↓evEs, ↓evFs, ↓evT, ↓evO, ↓evI, ↓rdv, Slot.dat, ↓opBin, ↓ofO, ↓ofV, Option.bind_some, Option.bind_none, Option.map_some, Option.map_none, List.map_cons, List.map_nil, List.replicate, List.cons_append, List.nil_append, List.getElem?_cons_zero, List.getElem?_cons_succ, List.getElem?_nil, rdAll, ↓opBi, List.set, ↓fzv, ↓tests, ↓frz, truD, ↓opCmp, ltD, leD, ↓finish, ↓endOf, ↓retV, ↓outsOf, headSlot, isTupS, keepsOff, List.headD_cons, List.headD_nil, List.tail_cons, List.tail_nil, List.length_cons, List.length_nil, Bool.false_eq_true, Nat.reduceAdd, Nat.reduceSub, Nat.zero_add, ↓doCall, apart, ↓slotsOf, slotOf, place, ↓back, List.getD_cons_zero, List.getD_cons_succ, Vl.noVr, Bool.and_true, Bool.true_and, Bool.and_self, Bool.not_false, Bool.not_true, List.zip_cons_cons, List.zip_nil_left, List.any_cons, List.any_nil, vrOf, Bool.or_false, Bool.false_or, Bool.and_false, Bool.false_and, and_self, true_and, Int.reduceToNat, Int.reducePow, Int.reduceLE, Int.reduceMul, reduceCtorEq, decide_false, decide_true, md0, md1, md2, md3, md4, md5, md6, md7, md8, md9, md10, md11, md12, md13, md14, md15, md16, md17, md18, md19, md20, md21, sh0, sh1, sh2, sh3, sh4, sh5, sh6, sh7, sh8, sh9, sh10, sh11, sh12, sh13, sh14, sh15, sh16, sh17, sh18, sh19, sh20, sh21, sh22, sh23, sh24, gc0, gc1, gc2, subD, at0, at1, at2, e, k1]
end
theorem log_n {n : Int} (hn : 0 < n ∧ n < 2 ^ 59) : n.natAbs.log2 < 9000 := by
  have := bits_le hn
  unfold Builtin.Int.intBits at this
  rw [if_neg (by simp; omega)] at this
  omega
theorem rand_a (m : Nat) (a b c n : Int) (h : 0 < a) (hn : 0 < n ∧ n < 2 ^ 59) : evSs theG (C (m + 1)) b10 [some (gsl a b c), some (.imm (.int n)), none, none] = .ok (.rt (.imm (.int (a % n)))) [some (gsl (a / n) b c), some (.imm (.int n)), some (.imm (.int (a % n))), none] := by
  have hn1 := log_n hn
  have hn0 := hn.1
  have h1 : decide (0 < a) = true := decide_eq_true h
  refine ss_rt (if_t (s1 := [some (gsl a b c), some (.imm (.int n)), none, none]) ?_ (ss_nx (s1 := [some (gsl a b c), some (.imm (.int n)), some (.imm (.int (a % n))), none]) ?_ (ss_nx (s1 := [some (gsl (a / n) b c), some (.imm (.int n)), some (.imm (.int (a % n))), none]) ?_ (ss_rt ?_))))
  · simp only [↓Out.bind, ↓reduceIte, if_true, if_false, ↓runFn, ↓evSs, ↓evS, ↓evE, ↓evEs, ↓evFs, ↓evT, ↓evO, ↓evI, ↓rdv, Slot.dat, ↓opBin, ↓ofO, ↓ofV, Option.bind_some, Option.bind_none, Option.map_some, Option.map_none, List.map_cons, List.map_nil, List.replicate, List.cons_append, List.nil_append, List.getElem?_cons_zero, List.getElem?_cons_succ, List.getElem?_nil, rdAll, ↓opBi, List.set, ↓fzv, ↓tests, ↓frz, truD, ↓opCmp, ltD, leD, ↓finish, ↓endOf, ↓retV, ↓outsOf, headSlot, isTupS, keepsOff, List.headD_cons, List.headD_nil, List.tail_cons, List.tail_nil, List.length_cons, List.length_nil, Bool.false_eq_true, Nat.reduceAdd, Nat.reduceSub, Nat.zero_add, ↓doCall, apart, ↓slotsOf, slotOf, place, ↓back, List.getD_cons_zero, List.getD_cons_succ, Vl.noVr, Bool.and_true, Bool.true_and, Bool.and_self, Bool.not_false, Bool.not_true, List.zip_cons_cons, List.zip_nil_left, List.any_cons, List.any_nil, vrOf, Bool.or_false, Bool.false_or, Bool.and_false, Bool.false_and, and_self, true_and, Int.reduceToNat, Int.reducePow, Int.reduceLE, Int.reduceMul, reduceCtorEq, decide_false, decide_true, md0, md1, md2, md3, md4, md5, md6, md7, md8, md9, md10, md11, md12, md13, md14, md15, md16, md17, md18, md19, md20, md21, sh0, sh1, sh2, sh3, sh4, sh5, sh6, sh7, sh8, sh9, sh10, sh11, sh12, sh13, sh14, sh15, sh16, sh17, sh18, sh19, sh20, sh21, sh22, sh23, sh24, gc0, gc1, gc2, subD, at0, h1]
  · simp only [↓Out.bind, ↓reduceIte, if_true, if_false, ↓runFn, ↓evSs, ↓evS, ↓evE, ↓evEs, ↓evFs, ↓evT, ↓evO, ↓evI, ↓rdv, Slot.dat, ↓opBin, ↓ofO, ↓ofV, Option.bind_some, Option.bind_none, Option.map_some, Option.map_none, List.map_cons, List.map_nil, List.replicate, List.cons_append, List.nil_append, List.getElem?_cons_zero, List.getElem?_cons_succ, List.getElem?_nil, rdAll, ↓opBi, List.set, ↓fzv, ↓tests, ↓frz, truD, ↓opCmp, ltD, leD, ↓finish, ↓endOf, ↓retV, ↓outsOf, headSlot, isTupS, keepsOff, List.headD_cons, List.headD_nil, List.tail_cons, List.tail_nil, List.length_cons, List.length_nil, Bool.false_eq_true, Nat.reduceAdd, Nat.reduceSub, Nat.zero_add, ↓doCall, apart, ↓slotsOf, slotOf, place, ↓back, List.getD_cons_zero, List.getD_cons_succ, Vl.noVr, Bool.and_true, Bool.true_and, Bool.and_self, Bool.not_false, Bool.not_true, List.zip_cons_cons, List.zip_nil_left, List.any_cons, List.any_nil, vrOf, Bool.or_false, Bool.false_or, Bool.and_false, Bool.false_and, and_self, true_and, Int.reduceToNat, Int.reducePow, Int.reduceLE, Int.reduceMul, reduceCtorEq, decide_false, decide_true, md0, md1, md2, md3, md4, md5, md6, md7, md8, md9, md10, md11, md12, md13, md14, md15, md16, md17, md18, md19, md20, md21, sh0, sh1, sh2, sh3, sh4, sh5, sh6, sh7, sh8, sh9, sh10, sh11, sh12, sh13, sh14, sh15, sh16, sh17, sh18, sh19, sh20, sh21, sh22, sh23, sh24, gc0, gc1, gc2, subD, at0, hn0]
  · simp only [↓Out.bind, ↓reduceIte, if_true, if_false, ↓runFn, ↓evSs, ↓evS, ↓evE, ↓evEs, ↓evFs, ↓evT, ↓evO, ↓evI, ↓rdv, Slot.dat, ↓opBin, ↓ofO, ↓ofV, Option.bind_some, Option.bind_none, Option.map_some, Option.map_none, List.map_cons, List.map_nil, List.replicate, List.cons_append, List.nil_append, List.getElem?_cons_zero, List.getElem?_cons_succ, List.getElem?_nil, rdAll, ↓opBi, List.set, ↓fzv, ↓tests, ↓frz, truD, ↓opCmp, ltD, leD, ↓finish, ↓endOf, ↓retV, ↓outsOf, headSlot, isTupS, keepsOff, List.headD_cons, List.headD_nil, List.tail_cons, List.tail_nil, List.length_cons, List.length_nil, Bool.false_eq_true, Nat.reduceAdd, Nat.reduceSub, Nat.zero_add, ↓doCall, apart, ↓slotsOf, slotOf, place, ↓back, List.getD_cons_zero, List.getD_cons_succ, Vl.noVr, Bool.and_true, Bool.true_and, Bool.and_self, Bool.not_false, Bool.not_true, List.zip_cons_cons, List.zip_nil_left, List.any_cons, List.any_nil, vrOf, Bool.or_false, Bool.false_or, Bool.and_false, Bool.false_and, and_self, true_and, Int.reduceToNat, Int.reducePow, Int.reduceLE, Int.reduceMul, reduceCtorEq, decide_false, decide_true, md0, md1, md2, md3, md4, md5, md6, md7, md8, md9, md10, md11, md12, md13, md14, md15, md16, md17, md18, md19, md20, md21, sh0, sh1, sh2, sh3, sh4, sh5, sh6, sh7, sh8, sh9, sh10, sh11, sh12, sh13, sh14, sh15, sh16, sh17, sh18, sh19, sh20, sh21, sh22, sh23, sh24, gc0, gc1, gc2, subD, at0, hn0, hn1, isOwn, ix0]
  · simp only [↓Out.bind, ↓reduceIte, if_true, if_false, ↓runFn, ↓evSs, ↓evS, ↓evE, ↓evEs, ↓evFs, ↓evT, ↓evO, ↓evI, ↓rdv, Slot.dat, ↓opBin, ↓ofO, ↓ofV, Option.bind_some, Option.bind_none, Option.map_some, Option.map_none, List.map_cons, List.map_nil, List.replicate, List.cons_append, List.nil_append, List.getElem?_cons_zero, List.getElem?_cons_succ, List.getElem?_nil, rdAll, ↓opBi, List.set, ↓fzv, ↓tests, ↓frz, truD, ↓opCmp, ltD, leD, ↓finish, ↓endOf, ↓retV, ↓outsOf, headSlot, isTupS, keepsOff, List.headD_cons, List.headD_nil, List.tail_cons, List.tail_nil, List.length_cons, List.length_nil, Bool.false_eq_true, Nat.reduceAdd, Nat.reduceSub, Nat.zero_add, ↓doCall, apart, ↓slotsOf, slotOf, place, ↓back, List.getD_cons_zero, List.getD_cons_succ, Vl.noVr, Bool.and_true, Bool.true_and, Bool.and_self, Bool.not_false, Bool.not_true, List.zip_cons_cons, List.zip_nil_left, List.any_cons, List.any_nil, vrOf, Bool.or_false, Bool.false_or, Bool.and_false, Bool.false_and, and_self, true_and, Int.reduceToNat, Int.reducePow, Int.reduceLE, Int.reduceMul, reduceCtorEq, decide_false, decide_true, md0, md1, md2, md3, md4, md5, md6, md7, md8, md9, md10, md11, md12, md13, md14, md15, md16, md17, md18, md19, md20, md21, sh0, sh1, sh2, sh3, sh4, sh5, sh6, sh7, sh8, sh9, sh10, sh11, sh12, sh13, sh14, sh15, sh16, sh17, sh18, sh19, sh20, sh21, sh22, sh23, sh24, gc0, gc1, gc2]
/-- the loop and what stands behind it -/
def r10 : Ss := .cons (.for (.v 3) (.rng1 (.bin .add (.cn (.int 1)) (.bin .fdiv (.me .bits (.var 1) .nil) (.cn (.int 30))))) b10x0) (.cons (.ret (.bin .md (.bi .int (.cons (.var 2) .nil)) (.var 1))) .nil)
theorem rand_s (m : Nat) (a b c n : Int) (h : ¬ 0 < a) {res : Out Fl} (hres : evSs theG (C (m + 1)) r10 [some (gsl a b c), some (.imm (.int n)), some (.imm (.int 0)), none] = res) : evSs theG (C (m + 1)) b10 [some (gsl a b c), some (.imm (.int n)), none, none] = res := by
  have h1 : decide (0 < a) = false := decide_eq_false h
  refine ss_nx (s1 := [some (gsl a b c), some (.imm (.int n)), none, none]) (if_f (s1 := [some (gsl a b c), some (.imm (.int n)), none, none]) ?_ ss_end) (ss_nx (s1 := [some (gsl a b c), some (.imm (.int n)), some (.imm (.int 0)), none]) ?_ hres)
  · simp only [↓Out.bind, ↓reduceIte, if_true, if_false, ↓runFn, ↓evSs, ↓evS, ↓evE, ↓evEs, ↓evFs, ↓evT, ↓evO, ↓evI, ↓rdv, Slot.dat, ↓opBin, ↓ofO, ↓ofV, Option.bind_some, Option.bind_none, Option.map_some, Option.map_none, List.map_cons, List.map_nil, List.replicate, List.cons_append, List.nil_append, List.getElem?_cons_zero, List.getElem?_cons_succ, List.getElem?_nil, rdAll, ↓opBi, List.set, ↓fzv, ↓tests, ↓frz, truD, ↓opCmp, ltD, leD, ↓finish, ↓endOf, ↓retV, ↓outsOf, headSlot, isTupS, keepsOff, List.headD_cons, List.headD_nil, List.tail_cons, List.tail_nil, List.length_cons, List.length_nil, Bool.false_eq_true, Nat.reduceAdd, Nat.reduceSub, Nat.zero_add, ↓doCall, apart, ↓slotsOf, slotOf, place, ↓back, List.getD_cons_zero, List.getD_cons_succ, Vl.noVr, Bool.and_true, Bool.true_and, Bool.and_self, Bool.not_false, Bool.not_true, List.zip_cons_cons, List.zip_nil_left, List.any_cons, List.any_nil, vrOf, Bool.or_false, Bool.false_or, Bool.and_false, Bool.false_and, and_self, true_and, Int.reduceToNat, Int.reducePow, Int.reduceLE, Int.reduceMul, reduceCtorEq, decide_false, decide_true, md0, md1, md2, md3, md4, md5, md6, md7, md8, md9, md10, md11, md12, md13, md14, md15, md16, md17, md18, md19, md20, md21, sh0, sh1, sh2, sh3, sh4, sh5, sh6, sh7, sh8, sh9, sh10, sh11, sh12, sh13, sh14, sh15, sh16, sh17, sh18, sh19, sh20, sh21, sh22, sh23, sh24, gc0, gc1, gc2, subD, at0, h1]
  · simp only [↓Out.bind, ↓reduceIte, if_true, if_false, ↓runFn, ↓evSs, ↓evS, ↓evE, ↓evEs, ↓evFs, ↓evT, ↓evO, ↓evI, ↓rdv, Slot.dat, ↓opBin, ↓ofO, ↓ofV, Option.bind_some, Option.bind_none, Option.map_some, Option.map_none, List.map_cons, List.map_nil, List.replicate, List.cons_append, List.nil_append, List.getElem?_cons_zero, List.getElem?_cons_succ, List.getElem?_nil, rdAll, ↓opBi, List.set, ↓fzv, ↓tests, ↓frz, truD, ↓opCmp, ltD, leD, ↓finish, ↓endOf, ↓retV, ↓outsOf, headSlot, isTupS, keepsOff, List.headD_cons, List.headD_nil, List.tail_cons, List.tail_nil, List.length_cons, List.length_nil, Bool.false_eq_true, Nat.reduceAdd, Nat.reduceSub, Nat.zero_add, ↓doCall, apart, ↓slotsOf, slotOf, place, ↓back, List.getD_cons_zero, List.getD_cons_succ, Vl.noVr, Bool.and_true, Bool.true_and, Bool.and_self, Bool.not_false, Bool.not_true, List.zip_cons_cons, List.zip_nil_left, List.any_cons, List.any_nil, vrOf, Bool.or_false, Bool.false_or, Bool.and_false, Bool.false_and, and_self, true_and, Int.reduceToNat, Int.reducePow, Int.reduceLE, Int.reduceMul, reduceCtorEq, decide_false, decide_true, md0, md1, md2, md3, md4, md5, md6, md7, md8, md9, md10, md11, md12, md13, md14, md15, md16, md17, md18, md19, md20, md21, sh0, sh1, sh2, sh3, sh4, sh5, sh6, sh7, sh8, sh9, sh10, sh11, sh12, sh13, sh14, sh15, sh16, sh17, sh18, sh19, sh20, sh21, sh22, sh23, sh24, gc0, gc1, gc2]
theorem rand_e (m : Nat) (a b c n d t : Int) (hn : 0 < n) : evSs theG (C (m + 1)) (.cons (.ret (.bin .md (.bi .int (.cons (.var 2) .nil)) (.var 1))) .nil) [some (gsl a b c), some (.imm (.int n)), some (.imm (.int d)), some (.imm (.int t))] = .ok (.rt (.imm (.int (d % n)))) [some (gsl a b c), some (.imm (.int n)), some (.imm (.int d)), some (.imm (.int t))] := by
  refine ss_rt ?_
  simp only [↓Out.bind, ↓reduceIte, if_true, if_false, ↓runFn, ↓evSs, ↓evS, ↓evE, ↓evEs, ↓evFs, ↓evT, ↓evO, ↓evI, ↓rdv, Slot.dat, ↓opBin, ↓ofO, ↓ofV, Option.bind_some, Option.bind_none, Option.map_some, Option.map_none, List.map_cons, List.map_nil, List.replicate, List.cons_append, List.nil_append, List.getElem?_cons_zero, List.getElem?_cons_succ, List.getElem?_nil, rdAll, ↓opBi, List.set, ↓fzv, ↓tests, ↓frz, truD, ↓opCmp, ltD, leD, ↓finish, ↓endOf, ↓retV, ↓outsOf, headSlot, isTupS, keepsOff, List.headD_cons, List.headD_nil, List.tail_cons, List.tail_nil, List.length_cons, List.length_nil, Bool.false_eq_true, Nat.reduceAdd, Nat.reduceSub, Nat.zero_add, ↓doCall, apart, ↓slotsOf, slotOf, place, ↓back, List.getD_cons_zero, List.getD_cons_succ, Vl.noVr, Bool.and_true, Bool.true_and, Bool.and_self, Bool.not_false, Bool.not_true, List.zip_cons_cons, List.zip_nil_left, List.any_cons, List.any_nil, vrOf, Bool.or_false, Bool.false_or, Bool.and_false, Bool.false_and, and_self, true_and, Int.reduceToNat, Int.reducePow, Int.reduceLE, Int.reduceMul, reduceCtorEq, decide_false, decide_true, md0, md1, md2, md3, md4, md5, md6, md7, md8, md9, md10, md11, md12, md13, md14, md15, md16, md17, md18, md19, md20, md21, sh0, sh1, sh2, sh3, sh4, sh5, sh6, sh7, sh8, sh9, sh10, sh11, sh12, sh13, sh14, sh15, sh16, sh17, sh18, sh19, sh20, sh21, sh22, sh23, sh24, gc0, gc1, gc2, hn]
theorem rand_i (m : Nat) (a b c n : Int) (q : Int) (hq : ((Builtin.Int.intBits n : Nat) : Int) / 30 = q) (hs : smallR (1 + q) = true) : evI theG (C (m + 1)) (.rng1 (.bin .add (.cn (.int 1)) (.bin .fdiv (.me .bits (.var 1) .nil) (.cn (.int 30))))) [some (gsl a b c), some (.imm (.int n)), some (.imm (.int 0)), none] = .ok (rangeD 0 (1 + q), []) [some (gsl a b c), some (.imm (.int n)), some (.imm (.int 0)), none] := by
  refine i_rng1 (e_bin rfl (e_bin (z := .imm (.int q)) (e_bits rfl rfl) rfl rfl rfl ?_) rfl rfl rfl) hs
  rw [o_fdiv ⟨by decide, by decide +kernel⟩, hq]
theorem rand_1 (m : Nat) (a b c n v1 : Int) (hn : 0 < n) (e1 : C (m + 1) 7 [.imm (.int b), .imm (.int (c + 1))] = .ok (.imm (.int v1)) [.imm (.int b), .imm (.int (c + 1))]) (q : ((Builtin.Int.intBits n : Nat) : Int) / 30 = 0) :
    evSs theG (C (m + 1)) r10 [some (gsl a b c), some (.imm (.int n)), some (.imm (.int 0)), none] = .ok (.rt (.imm (.int ((0 * 2147483587 + v1) % n)))) [some (gsl a b (c + 1)), some (.imm (.int n)), some (.imm (.int (0 * 2147483587 + v1))), some (.imm (.int 0))] := by
  have it := rand_i m a b c n 0 q (by decide)
  exact ss_nx (for_ok it (loop_nx rfl (turn10 m a b c n 0 v1 _ e1) loop_nil)) (rand_e m a b (c + 1) n _ 0 hn)
theorem rand_2 (m : Nat) (a b c n v1 v2 : Int) (hn : 0 < n) (e1 : C (m + 1) 7 [.imm (.int b), .imm (.int (c + 1))] = .ok (.imm (.int v1)) [.imm (.int b), .imm (.int (c + 1))]) (e2 : C (m + 1) 7 [.imm (.int b), .imm (.int (c + 1 + 1))] = .ok (.imm (.int v2)) [.imm (.int b), .imm (.int (c + 1 + 1))]) (q : ((Builtin.Int.intBits n : Nat) : Int) / 30 = 1) :
    evSs theG (C (m + 1)) r10 [some (gsl a b c), some (.imm (.int n)), some (.imm (.int 0)), none] = .ok (.rt (.imm (.int (((0 * 2147483587 + v1) * 2147483587 + v2) % n)))) [some (gsl a b (c + 1 + 1)), some (.imm (.int n)), some (.imm (.int ((0 * 2147483587 + v1) * 2147483587 + v2))), some (.imm (.int 1))] := by
  have it := rand_i m a b c n 1 q (by decide)
  exact ss_nx (for_ok it (loop_nx rfl (turn10 m a b c n 0 v1 _ e1) (loop_nx rfl (turn10 m a b (c + 1) n _ v2 _ e2) loop_nil))) (rand_e m a b (c + 1 + 1) n _ 1 hn)
theorem rand_f (g0 : Slot) (a b c n r : Int) (x y : Option Slot) : finish fn10 [g0, .imm (.int n)] (.ok (.rt (.imm (.int r))) [some (gsl a b c), some (.imm (.int n)), x, y]) = .ok (.imm (.int r)) [gsl a b c, .imm (.int n)] := by
  simp only [↓Out.bind, ↓reduceIte, if_true, if_false, ↓runFn, ↓evSs, ↓evS, ↓evE, ↓evEs, ↓evFs, ↓evT, ↓evO, ↓evI, ↓rdv, Slot.dat, ↓opBin, ↓ofO, ↓ofV, Option.bind_some, Option.bind_none, Option.map_some, Option.map_none, List.map_cons, List.map_nil, List.replicate, List.cons_append, List.nil_append, List.getElem?_cons_zero, List.getElem?_cons_succ, List.getElem?_nil, rdAll, ↓opBi, List.set, ↓fzv, ↓tests, ↓frz, truD, ↓opCmp, ltD, leD, ↓finish, ↓endOf, ↓retV, ↓outsOf, headSlot, isTupS, keepsOff, List.headD_cons, List.headD_nil, List.tail_cons, List.tail_nil, List.length_cons, List.length_nil, Bool.false_eq_true, Nat.reduceAdd, Nat.reduceSub, Nat.zero_add, ↓doCall, apart, ↓slotsOf, slotOf, place, ↓back, List.getD_cons_zero, List.getD_cons_succ, Vl.noVr, Bool.and_true, Bool.true_and, Bool.and_self, Bool.not_false, Bool.not_true, List.zip_cons_cons, List.zip_nil_left, List.any_cons, List.any_nil, vrOf, Bool.or_false, Bool.false_or, Bool.and_false, Bool.false_and, and_self, true_and, Int.reduceToNat, Int.reducePow, Int.reduceLE, Int.reduceMul, reduceCtorEq, decide_false, decide_true, md0, md1, md2, md3, md4, md5, md6, md7, md8, md9, md10, md11, md12, md13, md14, md15, md16, md17, md18, md19, md20, md21, sh0, sh1, sh2, sh3, sh4, sh5, sh6, sh7, sh8, sh9, sh10, sh11, sh12, sh13, sh14, sh15, sh16, sh17, sh18, sh19, sh20, sh21, sh22, sh23, sh24, gc0, gc1, gc2, fn10]
/-- a draw -/
theorem t_random (m : Nat) (a b c n : Int) (ha : 0 ≤ a) (hc : 0 ≤ c ∧ c < 2 ^ 59) (hn : 0 < n ∧ n < 2 ^ 59) : ∃ r a' c' : Int, 0 ≤ r ∧ r < n ∧ 0 ≤ a' ∧ c ≤ c' ∧ c' ≤ c + 2 ∧
    C (m + 2) 10 [gsl a b c, .imm (.int n)] = .ok (.imm (.int r)) [gsl a' b c', .imm (.int n)] := by
  have hn0 := hn.1
  rw [C_succ (m + 1) 10 _ fn10 rfl]
  by_cases h : 0 < a
  · refine ⟨a % n, a / n, c, Int.emod_nonneg _ (by omega), Int.emod_lt_of_pos _ hn0, Int.ediv_nonneg ha (by omega), by omega, by omega, ?_⟩
    rw [run_of rfl (rand_a m a b c n h hn)]
    exact rand_f ..
  · have hb := bits_le hn
    have hb0 : 0 ≤ ((Builtin.Int.intBits n : Nat) : Int) := Int.natCast_nonneg _
    obtain ⟨v1, p1, p2, e1⟩ := t_hash m b (c + 1) (by omega)
    obtain ⟨v2, p3, p4, e2⟩ := t_hash m b (c + 1 + 1) (by omega)
    have q : ((Builtin.Int.intBits n : Nat) : Int) / 30 = 0 ∨ ((Builtin.Int.intBits n : Nat) : Int) / 30 = 1 := by omega
    rcases q with q | q
    · refine ⟨(0 * 2147483587 + v1) % n, a, c + 1, Int.emod_nonneg _ (by omega), Int.emod_lt_of_pos _ hn0, ha, by omega, by omega, ?_⟩
      rw [run_of rfl (rand_s m a b c n h (rand_1 m a b c n v1 hn0 e1 q))]
      exact rand_f ..
    · refine ⟨((0 * 2147483587 + v1) * 2147483587 + v2) % n, a, c + 1 + 1, Int.emod_nonneg _ (by omega), Int.emod_lt_of_pos _ hn0, ha, by omega, by omega, ?_⟩
      rw [run_of rfl (rand_s m a b c n h (rand_2 m a b c n v1 v2 hn0 e1 e2 q))]
      exact rand_f ..
/-- the generator's state, good up to B -/
def Gd (B : Int) (g : Slot) : Prop := ∃ a b c : Int, g = gsl a b c ∧ 0 ≤ a ∧ 0 ≤ c ∧ c ≤ B
theorem Gd.mono {B B' : Int} {g : Slot} (h : Gd B g) (k : B ≤ B') : Gd B' g := by
  obtain ⟨a, b, c, e, h1, h2, h3⟩ := h
  exact ⟨a, b, c, e, h1, h2, by omega⟩
theorem u_random (m : Nat) {B : Int} {g : Slot} (hg : Gd B g) (hB : B < 2 ^ 58) (n : Int) (hn : 0 < n ∧ n < 2 ^ 59) : ∃ r g', 0 ≤ r ∧ r < n ∧ Gd (B + 2) g' ∧ C (m + 2) 10 [g, .imm (.int n)] = .ok (.imm (.int r)) [g', .imm (.int n)] := by
  obtain ⟨a, b, c, rfl, h1, h2, h3⟩ := hg
  obtain ⟨r, a', c', k1, k2, k3, k4, k5, e⟩ := t_random m a b c n h1 (by omega) hn
  exact ⟨r, gsl a' b c', k1, k2, ⟨a', b, c', rfl, k3, by omega, by omega⟩, e⟩
theorem u_pick (m : Nat) {B : Int} {g : Slot} (hg : Gd B g) (hB : B < 2 ^ 58) (ds : List PyData) (h0 : ds ≠ []) (hl : ds.length < 2 ^ 59) : ∃ d g', d ∈ ds ∧ Gd (B + 2) g' ∧ C (m + 3) 11 [g, .imm (.list ds)] = .ok (.imm d) [g', .imm (.list ds)] := by
  have hp : 0 < ds.length := List.length_pos_iff.mpr h0
  obtain ⟨r, g', k1, k2, k3, e⟩ := u_random m hg hB ds.length (by omega)
  obtain ⟨a, b, c, rfl, _⟩ := hg
  obtain ⟨a', b', c', rfl, _⟩ := id k3
  obtain ⟨i, rfl⟩ := Int.eq_ofNat_of_zero_le k1
  have hi : i < ds.length := by omega
  refine ⟨ds[i], _, List.getElem_mem hi, k3, ?_⟩
  have h2 : atI ds (i : Int) = some ds[i] := by rw [atI_nat]; simp [hi]
  rw [C_succ (m + 2) 11 _ fn11 rfl]
  simp only [↓Out.bind, ↓reduceIte, if_true, if_false, ↓runFn, ↓evSs, ↓evS, ↓evE, ↓evEs, ↓evFs, ↓evT, ↓evO, ↓evI, ↓rdv, Slot.dat, ↓opBin, ↓ofO, ↓ofV, Option.bind_some, Option.bind_none, Option.map_some, Option.map_none, List.map_cons, List.map_nil, List.replicate, List.cons_append, List.nil_append, List.getElem?_cons_zero, List.getElem?_cons_succ, List.getElem?_nil, rdAll, ↓opBi, List.set, ↓fzv, ↓tests, ↓frz, truD, ↓opCmp, ltD, leD, ↓finish, ↓endOf, ↓retV, ↓outsOf, headSlot, isTupS, keepsOff, List.headD_cons, List.headD_nil, List.tail_cons, List.tail_nil, List.length_cons, List.length_nil, Bool.false_eq_true, Nat.reduceAdd, Nat.reduceSub, Nat.zero_add, ↓doCall, apart, ↓slotsOf, slotOf, place, ↓back, List.getD_cons_zero, List.getD_cons_succ, Vl.noVr, Bool.and_true, Bool.true_and, Bool.and_self, Bool.not_false, Bool.not_true, List.zip_cons_cons, List.zip_nil_left, List.any_cons, List.any_nil, vrOf, Bool.or_false, Bool.false_or, Bool.and_false, Bool.false_and, and_self, true_and, Int.reduceToNat, Int.reducePow, Int.reduceLE, Int.reduceMul, reduceCtorEq, decide_false, decide_true, md0, md1, md2, md3, md4, md5, md6, md7, md8, md9, md10, md11, md12, md13, md14, md15, md16, md17, md18, md19, md20, md21, sh0, sh1, sh2, sh3, sh4, sh5, sh6, sh7, sh8, sh9, sh10, sh11, sh12, sh13, sh14, sh15, sh16, sh17, sh18, sh19, sh20, sh21, sh22, sh23, sh24, gc0, gc1, gc2, fn11, b11, lenD, subD, e, h2]
end PV

namespace PV
open PySem PySem.Spec PyProof.Rows L2
/-- a text of plain signs, not long -/
structure Tx (z : Str) : Prop where
  cs : ∀ c ∈ z.cps.toList, c < 128
  ln : z.length ≤ 1000
theorem Tx.sz {z : Str} (h : Tx z) : z.length ≤ sizeLine := by have := h.ln; rw [sizeLine_eq]; omega
theorem Tx.fl {z : Str} (h : Tx z) : ∀ d ∈ chars z, d.canLay0 = true ∧ d.depth = 0 := chars_flat fun c hc => by have := h.cs c hc; omega
def ninS (S : Str) : PyData → Bool
  | .str y => !strIn y S
  | _ => false
theorem chars_str {z : Str} {d : PyData} (h : d ∈ chars z) : ∃ y : Str, d = .str y := by
  unfold chars at h
  obtain ⟨c, _, rfl⟩ := List.mem_map.mp h
  exact ⟨_, rfl⟩
theorem filt_flat {z : Str} (h : Tx z) (p : PyData → Bool) : ∀ d ∈ ((chars z).filter p).map id, d.canLay0 = true ∧ d.depth = 0 := fun d hd => by
  rw [List.map_id] at hd
  exact h.fl d (List.mem_filter.mp hd).1
theorem is_whole_any (m : Nat) (d : PyData) : C (m + 1) 0 [.imm d] = .ok (.imm (.bool (isiD 0 d && !isiD 1 d))) [.imm d] := by
  rw [C_succ m 0 _ fn0 rfl]
  have e1 : ∀ n, evE theG (C m) (.isi (.var 0) [n]) [some (.imm d)] = .ok (.imm (.bool (isiD n d))) [some (.imm d)] := fun n => by
    rw [e_isi (x := .imm d) (d := d) rfl rfl]; simp
  have e : evSs theG (C m) b0 [some (.imm d)] = .ok (.rt (.imm (.bool (isiD 0 d && !isiD 1 d)))) [some (.imm d)] := by
    refine ss_rt (s_rt ?_)
    cases h : isiD 0 d with
    | true =>
      refine e_and_t (x := .imm (.bool true)) (by rw [e1, h]) rfl ?_
      rw [e_nt (k := isiD 1 d) (e1 1) rfl]; rfl
    | false =>
      exact e_and_f (x := .imm (.bool false)) (by rw [e1, h]) rfl
  rw [run_of rfl e]
  rfl
theorem t_signs (m : Nat) (z S : Str) (hz : Tx z) : C (m + 1) 2 [.imm (.str z), .imm (.str S)] = .ok (.imm (.bool ((chars z).filter (ninS S)).isEmpty)) [.imm (.str z), .imm (.str S)] := by
  rw [C_succ m 2 _ fn2 rfl]
  have el : evE theG (C m) (.lc (.var 2) (.v 2) (.seq (.var 0)) (.so (.cmp .nin (.var 2) (.var 1))) [2]) [some (.imm (.str z)), some (.imm (.str S)), none] = .ok (.fresh (.list (((chars z).filter (ninS S)).map id))) [some (.imm (.str z)), some (.imm (.str S)), none] := by
    refine e_lc (i_seqS rfl rfl hz.sz) rfl rfl rfl rfl (fun x hx => ?_) (fun x hx _ => rfl) (fun x => rfl)
    obtain ⟨y, rfl⟩ := chars_str hx
    refine t_of (x := .imm (.bool (!strIn y S))) (e_cmp rfl rfl rfl rfl rfl) rfl
  have e : evSs theG (C m) b2 [some (.imm (.str z)), some (.imm (.str S)), none] = .ok (.rt (.imm (.bool ((chars z).filter (ninS S)).isEmpty))) [some (.imm (.str z)), some (.imm (.str S)), none] := by
    refine ss_rt (s_rt (e_and_t (e_isi rfl rfl) rfl (e_cmp el rfl rfl rfl ?_)))
    show eqD _ _ = _
    rw [eqD_nil (filt_flat hz _), List.map_id]
  rw [run_of rfl e]
  rfl
abbrev SM : Str := "abcdefghijklmnopqrstuvwxyz"
abbrev SF : Str := "abcdefghijklmnopqrstuvwxyz0123456789"
theorem sm_sf : opBin .add (.str "abcdefghijklmnopqrstuvwxyz") (.str "0123456789") = some (.imm (.str SF)) := by
  have h : (("abcdefghijklmnopqrstuvwxyz" : Str).length + ("0123456789" : Str).length ≤ sizeLine) := by decide +kernel
  show (if ("abcdefghijklmnopqrstuvwxyz" : Str).length + ("0123456789" : Str).length ≤ sizeLine then some (Vl.imm (.str (("abcdefghijklmnopqrstuvwxyz" : Str) ++ ("0123456789" : Str)))) else none) = _
  rw [if_pos h]
  have h2 : (("abcdefghijklmnopqrstuvwxyz" : Str) ++ ("0123456789" : Str)) = SF := by decide +kernel
  rw [h2]
def firstIn (z : Str) : Bool := match z.cps.toList with
  | c :: _ => decide (c ∈ SM.cps.toList)
  | [] => false
def nameB (z : Str) : Bool := ((chars z).filter (ninS SF)).isEmpty && (decide (0 < (z.length : Int)) && decide ((z.length : Int) ≤ 8) && firstIn z)
theorem len_str (z : Str) (h : Tx z) : opBi .len [.str z] = some (.imm (.int z.length)) := by
  show ((lenD (.str z)).map fun n => Vl.imm (.int n)) = _
  show ((if z.length ≤ sizeLine then some (z.length : Int) else none).map fun n => Vl.imm (.int n)) = _
  rw [if_pos h.sz]; rfl
theorem t_name (m : Nat) (z : Str) (hz : Tx z) : C (m + 2) 3 [.imm (.str z)] = .ok (.imm (.bool (nameB z))) [.imm (.str z)] := by
  rw [C_succ (m + 1) 3 _ fn3 rfl]
  have e0 : evE theG (C (m + 1)) (.callk 1 (.cons (.var 0) (.cons (.bin .add (.glo 0) (.glo 1)) .nil)) .nil) [some (.imm (.str z))] = .ok (.imm (.bool ((chars z).filter (ninS SF)).isEmpty)) [some (.imm (.str z))] := by
    refine e_callk (es_cons rfl (es_cons (e_bin rfl rfl rfl rfl sm_sf) rfl)) rfl ?_
    exact call_imm (ds := [.str z, .str SF]) (t_signs m z SF hz) rfl rfl
  have el : evE theG (C (m + 1)) (.bi .len (.cons (.var 0) .nil)) [some (.imm (.str z))] = .ok (.imm (.int z.length)) [some (.imm (.str z))] := e_bi (es_cons rfl rfl) rfl (len_str z hz)
  have e : evSs theG (C (m + 1)) b3 [some (.imm (.str z))] = .ok (.rt (.imm (.bool (nameB z)))) [some (.imm (.str z))] := by
    refine ss_rt (s_rt ?_)
    unfold nameB
    cases h1 : ((chars z).filter (ninS SF)).isEmpty with
    | false => rw [Bool.false_and]; exact e_and_f (by rw [e0, h1]) rfl
    | true =>
      refine e_and_t (x := .imm (.bool true)) (by rw [e0, h1]) rfl ?_
      rw [Bool.true_and]
      by_cases h2 : 0 < (z.length : Int)
      · have g2 : decide (0 < (z.length : Int)) = true := decide_eq_true h2
        rw [g2, Bool.true_and]
        have ec : evE theG (C (m + 1)) (.cmp2 .lt .le (.cn (.int 0)) (.bi .len (.cons (.var 0) .nil)) (.glo 2)) [some (.imm (.str z))] = .ok (.imm (.bool (decide ((z.length : Int) ≤ 8)))) [some (.imm (.str z))] :=
          e_cmp2 rfl el rfl rfl (by show some (decide (0 < (z.length : Int))) = _; rw [g2]) rfl rfl rfl rfl
        cases h3 : decide ((z.length : Int) ≤ 8) with
        | false => rw [Bool.false_and]; exact e_and_f (by rw [ec, h3]) rfl
        | true =>
          refine e_and_t (x := .imm (.bool true)) (by rw [ec, h3]) rfl ?_
          rw [Bool.true_and]
          obtain ⟨c, r, hcr⟩ : ∃ c r, z.cps.toList = c :: r := by
            cases hh : z.cps.toList with
            | nil =>
              have : z.length = 0 := by
                show z.cps.size = 0
                rw [← Array.length_toList, hh]; rfl
              omega
            | cons c r => exact ⟨c, r, rfl⟩
          have es : subD (.str z) (.int 0) = some (.str ⟨#[c]⟩) := by
            show (if z.length ≤ sizeLine then (atI z.cps.toList 0).map (fun c => PyData.str ⟨#[c]⟩) else none) = _
            rw [if_pos hz.sz, hcr, show atI (c :: r) (0 : Int) = some c from atI_nat (c :: r) 0]; rfl
          have hf : firstIn z = decide (c ∈ SM.cps.toList) := by unfold firstIn; rw [hcr]
          rw [hf]
          exact e_cmp (e_sub rfl rfl rfl rfl es) rfl rfl rfl rfl
      · have g2 : decide (0 < (z.length : Int)) = false := decide_eq_false h2
        rw [g2, Bool.false_and, Bool.false_and]
        have ec : evE theG (C (m + 1)) (.cmp2 .lt .le (.cn (.int 0)) (.bi .len (.cons (.var 0) .nil)) (.glo 2)) [some (.imm (.str z))] = .ok (.imm (.bool false)) [some (.imm (.str z))] :=
          e_cmp2_f rfl el rfl rfl (by show some (decide (0 < (z.length : Int))) = _; rw [g2])
        exact e_and_f ec rfl
  rw [run_of rfl e]
  rfl
theorem str_one (k c : Nat) : ((⟨#[k]⟩ : Str) == ⟨#[c]⟩) = decide (k = c) := by
  rw [Bool.eq_iff_iff]
  constructor
  · intro h
    have e : (⟨#[k]⟩ : Str) = ⟨#[c]⟩ := by simpa using h
    injection e with e1
    have e2 := congrArg Array.toList e1
    simp at e2
    exact decide_eq_true e2
  · intro h
    have e := of_decide_eq_true h
    subst e
    simp
theorem sm_any (c : Nat) : ((chars SM).any fun d => PyData.eqv d (.str ⟨#[c]⟩)) = decide (c ∈ SM.cps.toList) := by
  unfold chars
  rw [List.any_map, Bool.eq_iff_iff, List.any_eq_true]
  constructor
  · rintro ⟨k, hk, h⟩
    have h' : ((⟨#[k]⟩ : Str) == ⟨#[c]⟩) = true := h
    rw [str_one] at h'
    have e := of_decide_eq_true h'
    subst e
    exact decide_eq_true hk
  · intro h
    exact ⟨c, of_decide_eq_true h, by show ((⟨#[c]⟩ : Str) == ⟨#[c]⟩) = true; rw [str_one]; simp⟩
theorem inL_eq (x : PyData) (ds : List PyData) : inD x (.list ds) = if (flatD x && ds.all flatD || (SeqAt.shaped x && SeqAt.shaped (.list ds))) = true then some (ds.any fun z => PyData.eqv z x) else none := rfl
theorem in_sm (y : Str) : inD (.str y) (.list (chars SM)) = some ((chars SM).any fun d => PyData.eqv d (.str y)) := by
  have h : (flatD (.str y) && (chars SM).all flatD || SeqAt.shaped (.str y) && SeqAt.shaped (.list (chars SM))) = true := by
    have h1 : (chars SM).all flatD = true := by decide +kernel
    rw [h1]; rfl
  rw [inL_eq, if_pos h]
theorem nin_eq (a b : PyData) : opCmp .nin a b = (inD a b).map (!·) := rfl
theorem first_in (z : Str) : ((chars SM).any fun d => PyData.eqv d (.str (cutS z none (some 1)))) = firstIn z := by
  unfold firstIn
  cases h : z.cps.toList with
  | nil =>
    have e : cutS z none (some 1) = ⟨#[]⟩ := by
      unfold cutS
      rw [h]; simp
    rw [e]
    decide +kernel
  | cons c r =>
    have hl : z.length = r.length + 1 := by
      show z.cps.size = _
      rw [← Array.length_toList, h]; rfl
    have e : cutS z none (some 1) = ⟨#[c]⟩ := by
      unfold cutS
      rw [h, hl]
      have h1 : HT.sIx (r.length + 1) 0 none = 0 := rfl
      have h2 : HT.sIx (r.length + 1) (r.length + 1) (some 1) = 1 := by
        unfold HT.sIx
        simp
      rw [h1, h2]; rfl
    rw [e]
    exact sm_any c
theorem t_lname (m : Nat) (z : Str) (hz : Tx z) : C (m + 1) 16 [.imm (.str z)] = .ok (.imm (.bool (nameB z))) [.imm (.str z)] := by
  rw [C_succ m 16 _ fn16 rfl]
  have el : evE theG (C m) (.bi .len (.cons (.var 0) .nil)) [some (.imm (.str z)), none] = .ok (.imm (.int z.length)) [some (.imm (.str z)), none] := e_bi (es_cons rfl rfl) rfl (len_str z hz)
  have e1 : evE theG (C m) (.nt (.isi (.var 0) [2])) [some (.imm (.str z)), none] = .ok (.imm (.bool false)) [some (.imm (.str z)), none] := e_nt (k := true) (e_isi rfl rfl) rfl
  have e2 : evE theG (C m) (.cmp .gt (.bi .len (.cons (.var 0) .nil)) (.cn (.int 8))) [some (.imm (.str z)), none] = .ok (.imm (.bool (decide (8 < (z.length : Int))))) [some (.imm (.str z)), none] := e_cmp el rfl rfl rfl rfl
  have e3 : evE theG (C m) (.cmp .nin (.sli (.var 0) .no (.so (.cn (.int 1)))) (.bi .list (.cons (.cn (.str "abcdefghijklmnopqrstuvwxyz")) .nil))) [some (.imm (.str z)), none] = .ok (.imm (.bool (!firstIn z))) [some (.imm (.str z)), none] := by
    have es : evE theG (C m) (.sli (.var 0) .no (.so (.cn (.int 1)))) [some (.imm (.str z)), none] = .ok (.imm (.str (cutS z none (some 1)))) [some (.imm (.str z)), none] := by
      have h : sliD (.str z) none (some 1) = some (.imm (.str (cutS z none (some 1)))) := by
        show (if z.length ≤ sizeLine then _ else none) = _
        rw [if_pos hz.sz]
      show ofO _ (sliD (.str z) none (some 1)) = _
      rw [h]; rfl
    have eb : evE theG (C m) (.bi .list (.cons (.cn (.str "abcdefghijklmnopqrstuvwxyz")) .nil)) [some (.imm (.str z)), none] = .ok (.fresh (.list (chars SM))) [some (.imm (.str z)), none] := by
      refine e_bi (es_cons rfl rfl) rfl ?_
      show (if SM.length ≤ sizeLine then some (Vl.fresh (.list (chars SM))) else none) = _
      rw [if_pos (by decide +kernel)]
    refine e_cmp es eb rfl rfl ?_
    rw [nin_eq, in_sm, first_in]; rfl
  have ef : evE theG (C m) (.lc (.var 1) (.v 1) (.seq (.var 0)) (.so (.cmp .nin (.var 1) (.cn (.str "abcdefghijklmnopqrstuvwxyz0123456789")))) [1]) [some (.imm (.str z)), none] = .ok (.fresh (.list (((chars z).filter (ninS SF)).map id))) [some (.imm (.str z)), none] := by
    refine e_lc (i_seqS rfl rfl hz.sz) rfl rfl rfl rfl (fun x hx => ?_) (fun x hx _ => rfl) (fun x => rfl)
    obtain ⟨y, rfl⟩ := chars_str hx
    refine t_of (x := .imm (.bool (!strIn y SF))) (e_cmp rfl rfl rfl rfl rfl) rfl
  have e : ∃ x, evSs theG (C m) b16 [some (.imm (.str z)), none] = .ok (.rt (.imm (.bool (nameB z)))) [some (.imm (.str z)), x] := by
    refine ⟨none, ?_⟩
    have big : evE theG (C m) (.or (.nt (.isi (.var 0) [2])) (.or (.cmp .gt (.bi .len (.cons (.var 0) .nil)) (.cn (.int 8))) (.cmp .nin (.sli (.var 0) .no (.so (.cn (.int 1)))) (.bi .list (.cons (.cn (.str "abcdefghijklmnopqrstuvwxyz")) .nil))))) [some (.imm (.str z)), none] = .ok (.imm (.bool (decide (8 < (z.length : Int)) || !firstIn z))) [some (.imm (.str z)), none] := by
      refine e_or_f e1 rfl ?_
      cases h : decide (8 < (z.length : Int)) with
      | true => rw [Bool.true_or]; exact e_or_t (by rw [e2, h]) rfl
      | false => rw [Bool.false_or]; exact e_or_f (by rw [e2, h]) rfl e3
    cases h : (decide (8 < (z.length : Int)) || !firstIn z) with
    | true =>
      have hn : nameB z = false := by
        unfold nameB
        rcases Bool.or_eq_true_iff.mp h with k | k
        · have k1 := of_decide_eq_true k
          rw [show decide ((z.length : Int) ≤ 8) = false from decide_eq_false (by omega)]
          simp
        · rw [show firstIn z = false by simpa using k]
          simp
      rw [hn]
      exact ss_rt (if_t (t_of (by rw [big, h]) rfl) (ss_rt (s_rt rfl)))
    | false =>
      rw [Bool.or_eq_false_iff] at h
      have hf : firstIn z = true := by simpa using h.2
      have h8 : decide ((z.length : Int) ≤ 8) = true := by
        have := of_decide_eq_false h.1
        exact decide_eq_true (by omega)
      have h0 : decide (0 < (z.length : Int)) = true := by
        refine decide_eq_true ?_
        unfold firstIn at hf
        cases hh : z.cps.toList with
        | nil => rw [hh] at hf; cases hf
        | cons c r =>
          have : z.length = r.length + 1 := by
            show z.cps.size = _
            rw [← Array.length_toList, hh]; rfl
          omega
      have hn : nameB z = ((chars z).filter (ninS SF)).isEmpty := by
        unfold nameB
        rw [hf, h8, h0]; simp
      rw [hn]
      refine ss_nx (if_f (t_of (x := .imm (.bool false)) (by rw [big, h.1, hf]; rfl) rfl) ss_end) (ss_rt (s_rt (e_cmp ef rfl rfl rfl ?_)))
      show eqD _ _ = _
      rw [eqD_nil (filt_flat hz _), List.map_id]
  obtain ⟨x, e⟩ := e
  rw [run_of rfl e]
  rfl
end PV

namespace PV
open PySem PySem.Spec PyProof.Rows L2 Builtin.Str
theorem t_exact (m : Nat) (b1 b2 b3 : Bool) : C (m + 3) 13 [.imm (.list [.bool b1, .bool b2, .bool b3]), .imm (.list [.bool b1, .bool b2, .bool b3])] = .ok (.imm (.bool true)) [.imm (.list [.bool b1, .bool b2, .bool b3]), .imm (.list [.bool b1, .bool b2, .bool b3])] := by
  cases b1 <;> cases b2 <;> cases b3 <;> kernel_rfl
theorem t_exactB (m : Nat) (b1 b2 b3 : Bool) : C (m + 3) 13 [.bor (.list [.bool b1, .bool b2, .bool b3]), .bor (.list [.bool b1, .bool b2, .bool b3])] = .ok (.imm (.bool true)) [.bor (.list [.bool b1, .bool b2, .bool b3]), .bor (.list [.bool b1, .bool b2, .bool b3])] := by
  cases b1 <;> cases b2 <;> cases b3 <;> kernel_rfl
section
variable {G : Cf} {F : CF} {e : E} {s s1 s2 : En} {d : PyData} {i : Nat} {r : Es} {ds : List PyData}
theorem s_asgI (h : evE G F e s = .ok (.imm d) s1) : evS G F (.asg (.v i) e) s = .ok .nx (s1.set i (some (.imm d))) := by
  simp only [evS, h, Out.bind_ok, fzv]
theorem s_asgF (h : evE G F e s = .ok (.fresh d) s1) : evS G F (.asg (.v i) e) s = .ok .nx (s1.set i (some (.own d))) := by
  simp only [evS, h, Out.bind_ok]
theorem fs_cons (h : evE G F e s = .ok (.imm d) s1) (h2 : evFs G F r s1 = .ok ds s2) : evFs G F (.cons e r) s = .ok (d :: ds) s2 := by
  simp only [evFs, frz, h, Out.bind_ok, fzv, h2]
theorem e_lst {es : Es} (h : evFs G F es s = .ok ds s1) : evE G F (.lst es) s = .ok (.fresh (.list ds)) s1 := by
  simp only [evE, h, Out.bind_ok]
end
theorem t_count_no (m : Nat) (d : PyData) (h : isiD 0 d = false) : C (m + 2) 1 [.imm d] = .ok (.imm (.bool false)) [.imm d] := by
  rw [C_succ (m + 1) 1 _ fn1 rfl]
  have e : evSs theG (C (m + 1)) b1 [some (.imm d)] = .ok (.rt (.imm (.bool false))) [some (.imm d)] := by
    refine ss_rt (s_rt (e_and_f (x := .imm (.bool false)) (e_callk (es_cons rfl rfl) rfl ?_) rfl))
    refine call_imm (ds := [d]) (outs := [.imm d]) ?_ rfl rfl
    show C (m + 1) 0 [.imm d] = _
    rw [is_whole_any, h]; rfl
  rw [run_of rfl e]
  rfl
theorem t_day_no (m : Nat) (d : PyData) (h : isiD 0 d = false) : C (m + 3) 5 [.imm d] = .ok (.imm (.bool false)) [.imm d] := by
  rw [C_succ (m + 2) 5 _ fn5 rfl]
  have e : evSs theG (C (m + 2)) b5 [some (.imm d)] = .ok (.rt (.imm (.bool false))) [some (.imm d)] := by
    refine ss_rt (s_rt (e_callk (es_cons rfl rfl) rfl ?_))
    exact call_imm (ds := [d]) (t_count_no m d h) rfl rfl
  rw [run_of rfl e]
  rfl
theorem t_lot_no (m : Nat) (d : PyData) (h : isiD 3 d = false) : C (m + 1) 6 [.imm d] = .ok (.imm (.bool false)) [.imm d] := by
  rw [C_succ m 6 _ fn6 rfl]
  have e : evSs theG (C m) b6 [some (.imm d), none] = .ok (.rt (.imm (.bool false))) [some (.imm d), none] := by
    refine ss_rt (s_rt (e_and_f (x := .imm (.bool false)) ?_ rfl))
    rw [e_isi (x := .imm d) (d := d) rfl rfl]
    simp [h]
  rw [run_of rfl e]
  rfl
theorem t_llot_no (m : Nat) (d : PyData) (h : isiD 3 d = false) : C (m + 1) 17 [.imm d] = .ok (.imm (.bool false)) [.imm d] := by
  rw [C_succ m 17 _ fn17 rfl]
  have e : evSs theG (C m) b17 [some (.imm d), none, none] = .ok (.rt (.imm (.bool false))) [some (.imm d), none, none] := by
    refine ss_rt (if_t (t_of (x := .imm (.bool true)) (e_or_t (x := .imm (.bool true)) ?_ rfl) rfl) (ss_rt (s_rt rfl)))
    exact e_nt (k := false) (s1 := [some (.imm d), none, none]) (x := .imm (.bool false)) (by rw [e_isi (x := .imm d) (d := d) rfl rfl]; simp [h]) rfl
  rw [run_of rfl e]
  rfl
theorem char_39 : ∀ c < 128, (reprChar 39 c).length ≤ 4 := by decide +kernel
theorem char_34 : ∀ c < 128, (reprChar 34 c).length ≤ 4 := by decide +kernel
theorem fold_le {q : Nat} (h : ∀ c < 128, (reprChar q c).length ≤ 4) : ∀ (l : List Nat) (n : Nat), (∀ c ∈ l, c < 128) → l.foldl (fun n c => n + (reprChar q c).length) n ≤ n + 4 * l.length
  | [], n, _ => by simp
  | c :: l, n, hl => by
    have h1 := h c (hl c (by simp))
    have h2 := fold_le h l (n + (reprChar q c).length) fun x hx => hl x (by simp [hx])
    rw [List.foldl_cons, List.length_cons]
    omega
theorem repr_len {z : Str} (hz : Tx z) : (reprText z).length ≤ 5000 := by
  rw [← reprLen_eq, ← Array.foldl_toList]
  have hl : z.cps.toList.length ≤ 1000 := by have := hz.ln; rw [Array.length_toList]; exact this
  have hq : reprQuote z = 34 ∨ reprQuote z = 39 := by unfold reprQuote; split <;> simp
  rcases hq with e | e
  · rw [e]; have := fold_le char_34 z.cps.toList 2 hz.cs; omega
  · rw [e]; have := fold_le char_39 z.cps.toList 2 hz.cs; omega
theorem repr_str {z : Str} (hz : Tx z) : opBi .repr [.str z] = some (.imm (.str (reprText z))) := by
  show (if (PyData.str z).showable = true ∧ (PyData.str z).depth ≤ 60 ∧ (PyData.str z).shown.length ≤ sizeLine then some (Vl.imm (.str (PyData.str z).shown)) else none) = _
  have e : (PyData.str z).shown = reprText z := rfl
  have := repr_len hz
  rw [if_pos ⟨rfl, Nat.zero_le _, by rw [e, sizeLine_eq]; omega⟩, e]
theorem eq_str (r : Str) : opCmp .eq (.str r) (.str r) = some true := by
  show eqD _ _ = _
  unfold eqD
  simp [scal2, scalD, PyData.eqv]
/-- what _law_judged asks, from what its six calls say -/
theorem judge (m : Nat) (d : PyData) (r : Str) (k b1 b3 : Bool) (hr : opBi .repr [d] = some (.imm (.str r))) (hk : (evE theG (C (m + 4)) (.and (.isi (.var 0) [0]) (.and (.nt (.isi (.var 0) [1])) (.cmp .ge (.var 0) (.cn (.int 0))))) [some (.imm d), some (.imm (.str r)), none, none, none, none]) = .ok (.imm (.bool k)) [some (.imm d), some (.imm (.str r)), none, none, none, none])
    (c16 : C (m + 4) 16 [.imm d] = .ok (.imm (.bool b1)) [.imm d]) (c17 : C (m + 4) 17 [.imm d] = .ok (.imm (.bool b3)) [.imm d]) (c3 : C (m + 4) 3 [.imm d] = .ok (.imm (.bool b1)) [.imm d]) (c5 : C (m + 4) 5 [.imm d] = .ok (.imm (.bool k)) [.imm d]) (c6 : C (m + 4) 6 [.imm d] = .ok (.imm (.bool b3)) [.imm d]) :
    C (m + 5) 20 [.imm d] = .ok (.imm (.bool true)) [.imm d] := by
  rw [C_succ (m + 4) 20 _ fn20 rfl]
  have h13 := t_exactB (m + 1) b1 k b3
  let L : PyData := .list [.bool b1, .bool k, .bool b3]
  have e : ∃ s, evSs theG (C (m + 4)) b20 [some (.imm d), none, none, none, none, none] = .ok (.rt (.imm (.bool true))) (some (.imm d) :: s) := by
    refine ⟨[some (.imm (.str r)), some (.imm (.bool k)), some (.own L), some (.own L), some (.own L)], ?_⟩
    have eD : evE theG (C (m + 4)) (.lst (.cons (.callk 16 (.cons (.var 0) .nil) .nil) (.cons (.var 2) (.cons (.callk 17 (.cons (.var 0) .nil) .nil) .nil)))) [some (.imm d), some (.imm (.str r)), some (.imm (.bool k)), none, none, none] = .ok (.fresh L) [some (.imm d), some (.imm (.str r)), some (.imm (.bool k)), none, none, none] :=
      e_lst (fs_cons (e_callk (es_cons rfl rfl) rfl (call_imm (ds := [d]) c16 rfl rfl)) (fs_cons rfl (fs_cons (e_callk (es_cons rfl rfl) rfl (call_imm (ds := [d]) c17 rfl rfl)) rfl)))
    have eT : evE theG (C (m + 4)) (.lst (.cons (.callk 13 (.cons (.var 0) .nil) .nil) (.cons (.callk 14 (.cons (.var 0) .nil) .nil) (.cons (.callk 15 (.cons (.var 0) .nil) .nil) .nil)))) [some (.imm d), some (.imm (.str r)), some (.imm (.bool k)), some (.own L), none, none] = .ok (.fresh L) [some (.imm d), some (.imm (.str r)), some (.imm (.bool k)), some (.own L), none, none] :=
      e_lst (fs_cons (e_callk (es_cons rfl rfl) rfl (call_imm (ds := [d]) c3 rfl rfl)) (fs_cons (e_callk (es_cons rfl rfl) rfl (call_imm (ds := [d]) c5 rfl rfl)) (fs_cons (e_callk (es_cons rfl rfl) rfl (call_imm (ds := [d]) c6 rfl rfl)) rfl)))
    have eA : evE theG (C (m + 4)) (.lst (.cons (.callk 10 .nil (.cons (.var 0) .nil)) (.cons (.callk 11 .nil (.cons (.var 0) .nil)) (.cons (.callk 12 .nil (.cons (.var 0) .nil)) .nil)))) [some (.imm d), some (.imm (.str r)), some (.imm (.bool k)), some (.own L), some (.own L), none] = .ok (.fresh L) [some (.imm d), some (.imm (.str r)), some (.imm (.bool k)), some (.own L), some (.own L), none] :=
      e_lst (fs_cons (e_callk rfl (es_cons rfl rfl) (call_imm (ds := [d]) c3 rfl rfl)) (fs_cons (e_callk rfl (es_cons rfl rfl) (call_imm (ds := [d]) c5 rfl rfl)) (fs_cons (e_callk rfl (es_cons rfl rfl) (call_imm (ds := [d]) c6 rfl rfl)) rfl)))
    refine ss_nx (s_asgI (e_bi (es_cons rfl rfl) rfl hr)) (ss_nx (s_asgI hk) (ss_nx (s_asgF eD) (ss_nx (s_asgF eT) (ss_nx (s_asgF eA) (ss_rt (s_rt ?_))))))
    · have hc : ∀ i j, (i = 4 ∨ i = 5) → j = 3 → evE theG (C (m + 4)) (.callk 8 (.cons (.var i) (.cons (.var j) .nil)) .nil) [some (.imm d), some (.imm (.str r)), some (.imm (.bool k)), some (.own L), some (.own L), some (.own L)] = .ok (.imm (.bool true)) [some (.imm d), some (.imm (.str r)), some (.imm (.bool k)), some (.own L), some (.own L), some (.own L)] := by
        rintro i j (rfl | rfl) rfl
        · refine e_callk (es_cons rfl (es_cons rfl rfl)) rfl ?_
          simp only [↓Out.bind, ↓reduceIte, if_true, if_false, ↓runFn, ↓evSs, ↓evS, ↓evE, ↓evEs, ↓evFs, ↓evT, ↓evO, ↓evI, ↓rdv, Slot.dat, ↓opBin, ↓ofO, ↓ofV, Option.bind_some, Option.bind_none, Option.map_some, Option.map_none, List.map_cons, List.map_nil, List.replicate, List.cons_append, List.nil_append, List.getElem?_cons_zero, List.getElem?_cons_succ, List.getElem?_nil, rdAll, ↓opBi, List.set, ↓fzv, ↓tests, ↓frz, truD, ↓opCmp, ltD, leD, ↓finish, ↓endOf, ↓retV, ↓outsOf, headSlot, isTupS, keepsOff, List.headD_cons, List.headD_nil, List.tail_cons, List.tail_nil, List.length_cons, List.length_nil, Bool.false_eq_true, Nat.reduceAdd, Nat.reduceSub, Nat.zero_add, ↓doCall, apart, ↓slotsOf, slotOf, place, ↓back, List.getD_cons_zero, List.getD_cons_succ, Vl.noVr, Bool.and_true, Bool.true_and, Bool.and_self, Bool.not_false, Bool.not_true, List.zip_cons_cons, List.zip_nil_left, List.any_cons, List.any_nil, vrOf, Bool.or_false, Bool.false_or, Bool.and_false, Bool.false_and, and_self, true_and, Int.reduceToNat, Int.reducePow, Int.reduceLE, Int.reduceMul, reduceCtorEq, decide_false, decide_true, md0, md1, md2, md3, md4, md5, md6, md7, md8, md9, md10, md11, md12, md13, md14, md15, md16, md17, md18, md19, md20, md21, sh0, sh1, sh2, sh3, sh4, sh5, sh6, sh7, sh8, sh9, sh10, sh11, sh12, sh13, sh14, sh15, sh16, sh17, sh18, sh19, sh20, sh21, sh22, sh23, sh24, gc0, gc1, gc2, L, h13]
        · refine e_callk (es_cons rfl (es_cons rfl rfl)) rfl ?_
          simp only [↓Out.bind, ↓reduceIte, if_true, if_false, ↓runFn, ↓evSs, ↓evS, ↓evE, ↓evEs, ↓evFs, ↓evT, ↓evO, ↓evI, ↓rdv, Slot.dat, ↓opBin, ↓ofO, ↓ofV, Option.bind_some, Option.bind_none, Option.map_some, Option.map_none, List.map_cons, List.map_nil, List.replicate, List.cons_append, List.nil_append, List.getElem?_cons_zero, List.getElem?_cons_succ, List.getElem?_nil, rdAll, ↓opBi, List.set, ↓fzv, ↓tests, ↓frz, truD, ↓opCmp, ltD, leD, ↓finish, ↓endOf, ↓retV, ↓outsOf, headSlot, isTupS, keepsOff, List.headD_cons, List.headD_nil, List.tail_cons, List.tail_nil, List.length_cons, List.length_nil, Bool.false_eq_true, Nat.reduceAdd, Nat.reduceSub, Nat.zero_add, ↓doCall, apart, ↓slotsOf, slotOf, place, ↓back, List.getD_cons_zero, List.getD_cons_succ, Vl.noVr, Bool.and_true, Bool.true_and, Bool.and_self, Bool.not_false, Bool.not_true, List.zip_cons_cons, List.zip_nil_left, List.any_cons, List.any_nil, vrOf, Bool.or_false, Bool.false_or, Bool.and_false, Bool.false_and, and_self, true_and, Int.reduceToNat, Int.reducePow, Int.reduceLE, Int.reduceMul, reduceCtorEq, decide_false, decide_true, md0, md1, md2, md3, md4, md5, md6, md7, md8, md9, md10, md11, md12, md13, md14, md15, md16, md17, md18, md19, md20, md21, sh0, sh1, sh2, sh3, sh4, sh5, sh6, sh7, sh8, sh9, sh10, sh11, sh12, sh13, sh14, sh15, sh16, sh17, sh18, sh19, sh20, sh21, sh22, sh23, sh24, gc0, gc1, gc2, L, h13]
      exact e_and_t (hc 4 3 (.inl rfl) rfl) rfl (e_and_t (hc 5 3 (.inr rfl) rfl) rfl (e_cmp (e_bi (es_cons rfl rfl) rfl hr) rfl rfl rfl (eq_str r)))
  obtain ⟨s, e⟩ := e
  rw [run_of rfl e]
  rfl
/-- a text is judged rightly -/
theorem judged_str (m : Nat) (z : Str) (hz : Tx z) : C (m + 5) 20 [.imm (.str z)] = .ok (.imm (.bool true)) [.imm (.str z)] :=
  judge m (.str z) (reprText z) false (nameB z) false (repr_str hz) (e_and_f (x := .imm (.bool false)) (e_isi (x := .imm (.str z)) (d := .str z) rfl rfl) rfl) (t_lname (m + 3) z hz) (t_llot_no (m + 3) _ rfl) (t_name (m + 2) z hz) (t_day_no (m + 1) _ rfl) (t_lot_no (m + 3) _ rfl)
end PV

namespace PV
open PySem PySem.Spec PyProof.Rows L2 Builtin.Str
theorem t_sgn_no (m : Nat) (d : PyData) (S : Str) (h : isiD 2 d = false) : C (m + 1) 2 [.imm d, .imm (.str S)] = .ok (.imm (.bool false)) [.imm d, .imm (.str S)] := by
  rw [C_succ m 2 _ fn2 rfl]
  have e : evSs theG (C m) b2 [some (.imm d), some (.imm (.str S)), none] = .ok (.rt (.imm (.bool false))) [some (.imm d), some (.imm (.str S)), none] := by
    refine ss_rt (s_rt (e_and_f (x := .imm (.bool false)) ?_ rfl))
    rw [e_isi (x := .imm d) (d := d) rfl rfl]
    simp [h]
  rw [run_of rfl e]
  rfl
theorem t_name_no (m : Nat) (d : PyData) (h : isiD 2 d = false) : C (m + 2) 3 [.imm d] = .ok (.imm (.bool false)) [.imm d] := by
  rw [C_succ (m + 1) 3 _ fn3 rfl]
  have e0 : evE theG (C (m + 1)) (.callk 1 (.cons (.var 0) (.cons (.bin .add (.glo 0) (.glo 1)) .nil)) .nil) [some (.imm d)] = .ok (.imm (.bool false)) [some (.imm d)] := by
    refine e_callk (es_cons rfl (es_cons (e_bin rfl rfl rfl rfl sm_sf) rfl)) rfl ?_
    exact call_imm (ds := [d, .str SF]) (t_sgn_no m d SF h) rfl rfl
  have e : evSs theG (C (m + 1)) b3 [some (.imm d)] = .ok (.rt (.imm (.bool false))) [some (.imm d)] := ss_rt (s_rt (e_and_f e0 rfl))
  rw [run_of rfl e]
  rfl
theorem t_lname_no (m : Nat) (d : PyData) (h : isiD 2 d = false) : C (m + 1) 16 [.imm d] = .ok (.imm (.bool false)) [.imm d] := by
  rw [C_succ m 16 _ fn16 rfl]
  have e : evSs theG (C m) b16 [some (.imm d), none] = .ok (.rt (.imm (.bool false))) [some (.imm d), none] := by
    refine ss_rt (if_t (t_of (x := .imm (.bool true)) (e_or_t (x := .imm (.bool true)) ?_ rfl) rfl) (ss_rt (s_rt rfl)))
    exact e_nt (k := false) (s1 := [some (.imm d), none]) (x := .imm (.bool false)) (by rw [e_isi (x := .imm d) (d := d) rfl rfl]; simp [h]) rfl
  rw [run_of rfl e]
  rfl
/-- neither text nor number nor list -/
theorem judged_no (m : Nat) (d : PyData) (r : Str) (hr : opBi .repr [d] = some (.imm (.str r))) (h0 : isiD 0 d = false) (h2 : isiD 2 d = false) (h3 : isiD 3 d = false) : C (m + 5) 20 [.imm d] = .ok (.imm (.bool true)) [.imm d] :=
  judge m d r false false false hr (e_and_f (x := .imm (.bool false)) (by rw [e_isi (x := .imm d) (d := d) rfl rfl]; simp [h0]) rfl) (t_lname_no (m + 3) d h2) (t_llot_no (m + 3) d h3) (t_name_no (m + 2) d h2) (t_day_no (m + 1) d h0) (t_lot_no (m + 3) d h3)
/-! ### lists of numbers -/
theorem t_count_int (m : Nat) (i : Int) : C (m + 2) 1 [.imm (.int i)] = .ok (.imm (.bool (decide (0 ≤ i)))) [.imm (.int i)] := by
  rw [C_succ (m + 1) 1 _ fn1 rfl]
  have e : evSs theG (C (m + 1)) b1 [some (.imm (.int i))] = .ok (.rt (.imm (.bool (decide (0 ≤ i))))) [some (.imm (.int i))] := by
    refine ss_rt (s_rt (e_and_t (x := .imm (.bool true)) (e_callk (es_cons rfl rfl) rfl (call_imm (ds := [.int i]) (outs := [.imm (.int i)]) ?_ rfl rfl)) rfl (e_cmp rfl rfl rfl rfl rfl)))
    show C (m + 1) 0 [.imm (.int i)] = _
    rw [is_whole_any]; rfl
  rw [run_of rfl e]
  rfl
end PV

namespace PV
open PySem PySem.Spec PyProof.Rows L2 Builtin.Str
def Sm (i : Int) : Prop := i.natAbs < 10 ^ 13
theorem int_shown {i : Int} (h : Sm i) : (PyData.shown (.int i)).length ≤ 20 := by
  have h1 := int_text_length_le10 (k := 13) (by decide) h
  show (Str.ofString (toString i)).length ≤ 20
  rw [PySem.ofString_length]
  omega
theorem sm_all : ∀ ns : List Int, (∀ i ∈ ns, Sm i) → PyData.leavesShortAll 20 (ns.map .int) = true ∧ PyData.showableAll (ns.map .int) = true ∧ PyData.depthAll (ns.map .int) = 0 ∧ PyData.bulkAll (ns.map .int) = ns.length
  | [], _ => ⟨rfl, rfl, rfl, rfl⟩
  | i :: ns, h => by
    obtain ⟨h1, h2, h3, h4⟩ := sm_all ns fun x hx => h x (by simp [hx])
    have hi := int_shown (h i (by simp))
    have hl : i.natAbs.log2 < 1920 := by
      have := h i (by simp)
      unfold Sm at this
      by_cases h0 : i.natAbs = 0
      · rw [h0]; decide
      · have : i.natAbs.log2 < 64 := (Nat.log2_lt h0).mpr (by omega)
        omega
    refine ⟨?_, ?_, ?_, ?_⟩
    · simp [PyData.leavesShortAll, PyData.leavesShort, h1, hi]
    · simp [PyData.showableAll, PyData.showable, h2, hl]
    · simp [PyData.depthAll, PyData.depth, h3]
    · simp [PyData.bulkAll, PyData.bulk, h4]; omega
theorem repr_list {ns : List Int} (h : ∀ i ∈ ns, Sm i) (hl : ns.length ≤ 100) : ∃ r, opBi .repr [.list (ns.map .int)] = some (.imm (.str r)) := by
  obtain ⟨h1, h2, h3, h4⟩ := sm_all ns h
  have hb := PyData.shown_le_bulk 20 (by decide) (.list (ns.map .int)) (by simpa [PyData.leavesShort] using h1)
  have hk : (PyData.list (ns.map .int)).bulk = ns.length := by simpa [PyData.bulk] using h4
  rw [hk] at hb
  refine ⟨_, if_pos ⟨by simpa [PyData.showable] using h2, by simp [PyData.depth, h3], ?_⟩⟩
  rw [sizeLine_eq]; omega
theorem repr_tuple {ns : List Int} (h : ∀ i ∈ ns, Sm i) (hl : ns.length ≤ 100) : ∃ r, opBi .repr [.tuple (ns.map .int)] = some (.imm (.str r)) := by
  obtain ⟨h1, h2, h3, h4⟩ := sm_all ns h
  have hb := PyData.shown_le_bulk 20 (by decide) (.tuple (ns.map .int)) (by simpa [PyData.leavesShort] using h1)
  have hk : (PyData.tuple (ns.map .int)).bulk = ns.length := by simpa [PyData.bulk] using h4
  rw [hk] at hb
  refine ⟨_, if_pos ⟨by simpa [PyData.showable] using h2, by simp [PyData.depth, h3], ?_⟩⟩
  rw [sizeLine_eq]; omega
theorem judged_tuple (m : Nat) {ns : List Int} (h : ∀ i ∈ ns, Sm i) (hl : ns.length ≤ 100) : C (m + 5) 20 [.imm (.tuple (ns.map .int))] = .ok (.imm (.bool true)) [.imm (.tuple (ns.map .int))] := by
  obtain ⟨r, hr⟩ := repr_tuple h hl
  exact judged_no m _ r hr rfl rfl rfl
end PV

namespace PV
open PySem PySem.Spec PyProof.Rows L2 Builtin.Str
theorem i_rng2 {G : Cf} {F : CF} {a b : E} {s s1 s2 : En} {i j : Int} (ha : evE G F a s = .ok (.imm (.int i)) s1) (hb : evE G F b s1 = .ok (.imm (.int j)) s2) (hs : (smallR i && smallR j) = true) : evI G F (.rng2 a b) s = .ok (rangeD i j, []) s2 := by
  have h : evI G F (.rng2 a b) s = (evE G F a s).bind fun x s1 => (evE G F b s1).bind fun y s2 => match rdv s2 x, rdv s2 y with
    | some (.int i), some (.int j) => if (smallR i && smallR j) = true then .ok (rangeD i j, []) s2 else .stuck
    | _, _ => .stuck := by simp only [evI] <;> rfl
  rw [h, ha, Out.bind_ok, hb, Out.bind_ok]
  show (if (smallR i && smallR j) = true then _ else _) = _
  rw [if_pos hs]
theorem small_of {i : Int} (h : 0 ≤ i ∧ i ≤ 1000) : smallR i = true := by
  unfold smallR
  exact decide_eq_true ⟨by omega, by omega⟩
theorem range_mem {lo hi : Int} {x : PyData} (h : x ∈ rangeD lo hi) : ∃ k : Nat, x = .int (lo + k) ∧ lo + k < hi := by
  unfold rangeD at h
  obtain ⟨k, hk, rfl⟩ := List.mem_map.mp h
  rw [List.mem_range] at hk
  exact ⟨k, rfl, by omega⟩
theorem range_flat {lo hi : Int} {p : PyData → Bool} : ∀ d ∈ ((rangeD lo hi).filter p).map id, d.canLay0 = true ∧ d.depth = 0 := fun d hd => by
  rw [List.map_id] at hd
  obtain ⟨k, rfl, _⟩ := range_mem (List.mem_filter.mp hd).1
  exact ⟨rfl, rfl⟩
theorem ints_flat {ns : List Int} {p : PyData → Bool} : ∀ d ∈ ((ns.map PyData.int).filter p).map id, d.canLay0 = true ∧ d.depth = 0 := fun d hd => by
  rw [List.map_id] at hd
  obtain ⟨i, _, rfl⟩ := List.mem_map.mp (List.mem_filter.mp hd).1
  exact ⟨rfl, rfl⟩
theorem rlen_ok {lo hi : Int} (h : 0 ≤ lo ∧ hi ≤ 1000) : decide ((rangeD lo hi).length ≤ sizeLine) = true := by
  refine decide_eq_true ?_
  unfold rangeD
  rw [List.length_map, List.length_range, sizeLine_eq]
  omega
/-- the item at a place -/
def at? (ns : List Int) (t : Int) : Int := ns.getD t.toNat 0
theorem sub_at {ns : List Int} {t : Int} (h : 0 ≤ t ∧ t < ns.length) : subD (.list (ns.map .int)) (.int t) = some (.int (at? ns t)) := by
  obtain ⟨k, rfl⟩ := Int.eq_ofNat_of_zero_le h.1
  show atI (ns.map PyData.int) (k : Int) = _
  have hk : k < ns.length := by omega
  rw [atI_nat]
  unfold at?
  simp [hk]
/-- not ascending at a place -/
def qD (ns : List Int) : PyData → Bool
  | .int t => decide (at? ns t ≤ at? ns (t - 1))
  | _ => false
theorem t_asc (m : Nat) (ns : List Int) (hl : ns.length ≤ 100) : C (m + 1) 4 [.imm (.list (ns.map .int))] = .ok (.imm (.bool ((rangeD 1 ns.length).filter (qD ns)).isEmpty)) [.imm (.list (ns.map .int))] := by
  rw [C_succ m 4 _ fn4 rfl]
  have ln : evE theG (C m) (.bi .len (.cons (.var 0) .nil)) [some (.imm (.list (ns.map .int))), none] = .ok (.imm (.int ns.length)) [some (.imm (.list (ns.map .int))), none] := by
    refine e_bi (es_cons rfl rfl) rfl ?_
    show some (Vl.imm (.int ((ns.map PyData.int).length : Int))) = _
    rw [List.length_map]
  have el : evE theG (C m) (.lc (.var 1) (.v 1) (.rng2 (.cn (.int 1)) (.bi .len (.cons (.var 0) .nil))) (.so (.cmp .ge (.sub (.var 0) (.bin .sub (.var 1) (.cn (.int 1)))) (.sub (.var 0) (.var 1)))) [1]) [some (.imm (.list (ns.map .int))), none] = .ok (.fresh (.list (((rangeD 1 ns.length).filter (qD ns)).map id))) [some (.imm (.list (ns.map .int))), none] := by
    refine e_lc (i_rng2 rfl ln (by rw [small_of (by omega), small_of (by omega)]; rfl)) ?_ rfl rfl rfl (fun x hx => ?_) (fun x hx _ => ?_) (fun x => rfl)
    · show (true && (!true || decide ((rangeD 1 (ns.length : Int)).length ≤ sizeLine))) = true
      rw [rlen_ok (by omega)]; rfl
    · obtain ⟨k, rfl, hk⟩ := range_mem hx
      refine t_of (x := .imm (.bool (qD ns (.int (1 + k))))) (e_cmp (e_sub rfl (e_bin rfl rfl rfl rfl rfl) rfl rfl (sub_at (t := 1 + k - 1) (by omega))) (e_sub rfl rfl rfl rfl (sub_at (t := 1 + k) (by omega))) rfl rfl rfl) rfl
    · obtain ⟨k, rfl, hk⟩ := range_mem hx
      rfl
  have e : evSs theG (C m) b4 [some (.imm (.list (ns.map .int))), none] = .ok (.rt (.imm (.bool ((rangeD 1 ns.length).filter (qD ns)).isEmpty))) [some (.imm (.list (ns.map .int))), none] := by
    refine ss_rt (s_rt (e_cmp el rfl rfl rfl ?_))
    show eqD _ _ = _
    rw [eqD_nil range_flat, List.map_id]
  rw [run_of (G := theG) (F := C m) (fn := fn4) (as := [.imm (.list (ns.map .int))]) rfl e]
  rfl
def negD : PyData → Bool
  | .int i => !decide (0 ≤ i)
  | _ => false
theorem t_lot (m : Nat) (ns : List Int) (hl : ns.length ≤ 100) : C (m + 3) 6 [.imm (.list (ns.map .int))] = .ok (.imm (.bool (((ns.map PyData.int).filter negD).isEmpty && ((rangeD 1 ns.length).filter (qD ns)).isEmpty))) [.imm (.list (ns.map .int))] := by
  rw [C_succ (m + 2) 6 _ fn6 rfl]
  have el : evE theG (C (m + 2)) (.lc (.var 1) (.v 1) (.seq (.var 0)) (.so (.nt (.callk 2 (.cons (.var 1) .nil) .nil))) [1]) [some (.imm (.list (ns.map .int))), none] = .ok (.fresh (.list (((ns.map PyData.int).filter negD).map id))) [some (.imm (.list (ns.map .int))), none] := by
    refine e_lc (i_seqL rfl rfl) rfl rfl rfl rfl (fun x hx => ?_) (fun x hx _ => ?_) (fun x => rfl)
    · obtain ⟨i, _, rfl⟩ := List.mem_map.mp hx
      refine t_of (x := .imm (.bool (negD (.int i)))) (e_nt (k := decide (0 ≤ i)) (e_callk (es_cons rfl rfl) rfl (call_imm (ds := [.int i]) (t_count_int m i) rfl rfl)) rfl) rfl
    · obtain ⟨i, _, rfl⟩ := List.mem_map.mp hx
      rfl
  have e1 : evE theG (C (m + 2)) (.cmp .eq (.lc (.var 1) (.v 1) (.seq (.var 0)) (.so (.nt (.callk 2 (.cons (.var 1) .nil) .nil))) [1]) (.lst .nil)) [some (.imm (.list (ns.map .int))), none] = .ok (.imm (.bool ((ns.map PyData.int).filter negD).isEmpty)) [some (.imm (.list (ns.map .int))), none] := by
    refine e_cmp el rfl rfl rfl ?_
    show eqD _ _ = _
    rw [eqD_nil ints_flat, List.map_id]
  have e2 : evE theG (C (m + 2)) (.callk 3 (.cons (.var 0) .nil) .nil) [some (.imm (.list (ns.map .int))), none] = .ok (.imm (.bool ((rangeD 1 ns.length).filter (qD ns)).isEmpty)) [some (.imm (.list (ns.map .int))), none] :=
    e_callk (es_cons rfl rfl) rfl (call_imm (ds := [.list (ns.map .int)]) (t_asc (m + 1) ns hl) rfl rfl)
  have e : evSs theG (C (m + 2)) b6 [some (.imm (.list (ns.map .int))), none] = .ok (.rt (.imm (.bool (((ns.map PyData.int).filter negD).isEmpty && ((rangeD 1 ns.length).filter (qD ns)).isEmpty)))) [some (.imm (.list (ns.map .int))), none] := by
    refine ss_rt (s_rt (e_and_t (x := .imm (.bool true)) (e_isi (x := .imm (.list (ns.map .int))) (d := .list (ns.map .int)) rfl rfl) rfl ?_))
    cases h : ((ns.map PyData.int).filter negD).isEmpty with
    | true => exact e_and_t (x := .imm (.bool true)) (by rw [e1, h]) rfl (by rw [e2, Bool.true_and])
    | false => rw [Bool.false_and]; exact e_and_f (by rw [e1, h]) rfl
  rw [run_of (G := theG) (F := C (m + 2)) (fn := fn6) (as := [.imm (.list (ns.map .int))]) rfl e]
  rfl
/-- below nothing, or not ascending -/
def bD (ns : List Int) : PyData → Bool
  | .int t => decide (at? ns t < 0) || (decide (0 < t) && qD ns (.int t))
  | _ => false
theorem t_llot (m : Nat) (ns : List Int) (hl : ns.length ≤ 100) : C (m + 1) 17 [.imm (.list (ns.map .int))] = .ok (.imm (.bool ((rangeD 0 ns.length).filter (bD ns)).isEmpty)) [.imm (.list (ns.map .int))] := by
  rw [C_succ m 17 _ fn17 rfl]
  have ln : evE theG (C m) (.bi .len (.cons (.var 0) .nil)) [some (.imm (.list (ns.map .int))), none, none] = .ok (.imm (.int ns.length)) [some (.imm (.list (ns.map .int))), none, none] := by
    refine e_bi (es_cons rfl rfl) rfl ?_
    show some (Vl.imm (.int ((ns.map PyData.int).length : Int))) = _
    rw [List.length_map]
  have e0 : evE theG (C m) (.cmp .ne (.lc (.var 2) (.v 2) (.seq (.var 0)) (.so (.or (.isi (.var 2) [1]) (.nt (.isi (.var 2) [0])))) [2]) (.lst .nil)) [some (.imm (.list (ns.map .int))), none, none] = .ok (.imm (.bool false)) [some (.imm (.list (ns.map .int))), none, none] := by
    have el : evE theG (C m) (.lc (.var 2) (.v 2) (.seq (.var 0)) (.so (.or (.isi (.var 2) [1]) (.nt (.isi (.var 2) [0])))) [2]) [some (.imm (.list (ns.map .int))), none, none] = .ok (.fresh (.list (((ns.map PyData.int).filter fun _ => false).map id))) [some (.imm (.list (ns.map .int))), none, none] := by
      refine e_lc (i_seqL rfl rfl) rfl rfl rfl rfl (fun x hx => ?_) (fun x hx h => by cases h) (fun x => rfl)
      obtain ⟨i, _, rfl⟩ := List.mem_map.mp hx
      exact t_of (x := .imm (.bool false)) (e_or_f (x := .imm (.bool false)) (e_isi (x := .imm (.int i)) (d := .int i) rfl rfl) rfl (e_nt (k := true) (x := .imm (.bool true)) (e_isi (x := .imm (.int i)) (d := .int i) rfl rfl) rfl)) rfl
    refine e_cmp el rfl rfl rfl ?_
    show (eqD _ _).map (!·) = _
    rw [eqD_nil ints_flat, List.map_id, show (ns.map PyData.int).filter (fun _ => false) = [] from List.filter_eq_nil_iff.mpr (by simp)]; rfl
  have el : evE theG (C m) (.lc (.var 1) (.v 1) (.rng1 (.bi .len (.cons (.var 0) .nil))) (.so (.or (.cmp .lt (.sub (.var 0) (.var 1)) (.cn (.int 0))) (.and (.cmp .gt (.var 1) (.cn (.int 0))) (.cmp .ge (.sub (.var 0) (.bin .sub (.var 1) (.cn (.int 1)))) (.sub (.var 0) (.var 1)))))) [1]) [some (.imm (.list (ns.map .int))), none, none] = .ok (.fresh (.list (((rangeD 0 ns.length).filter (bD ns)).map id))) [some (.imm (.list (ns.map .int))), none, none] := by
    refine e_lc (i_rng1 ln (small_of (by omega))) ?_ rfl rfl rfl (fun x hx => ?_) (fun x hx _ => ?_) (fun x => rfl)
    · show (true && (!true || decide ((rangeD 0 (ns.length : Int)).length ≤ sizeLine))) = true
      rw [rlen_ok (by omega)]; rfl
    · obtain ⟨k, rfl, hk⟩ := range_mem hx
      refine t_of (x := .imm (.bool (bD ns (.int (0 + k))))) ?_ rfl
      have c1 : evE theG (C m) (.cmp .lt (.sub (.var 0) (.var 1)) (.cn (.int 0))) [some (.imm (.list (ns.map .int))), some (.imm (.int (0 + k))), none] = .ok (.imm (.bool (decide (at? ns (0 + k) < 0)))) [some (.imm (.list (ns.map .int))), some (.imm (.int (0 + k))), none] :=
        e_cmp (e_sub rfl rfl rfl rfl (sub_at (t := 0 + k) (by omega))) rfl rfl rfl rfl
      have c2 : evE theG (C m) (.cmp .gt (.var 1) (.cn (.int 0))) [some (.imm (.list (ns.map .int))), some (.imm (.int (0 + k))), none] = .ok (.imm (.bool (decide ((0 : Int) < 0 + k)))) [some (.imm (.list (ns.map .int))), some (.imm (.int (0 + k))), none] := e_cmp rfl rfl rfl rfl rfl
      show evE theG (C m) _ [some (.imm (.list (ns.map .int))), some (.imm (.int (0 + k))), none] = .ok (.imm (.bool (decide (at? ns (0 + k) < 0) || (decide ((0 : Int) < 0 + k) && qD ns (.int (0 + k)))))) [some (.imm (.list (ns.map .int))), some (.imm (.int (0 + k))), none]
      cases h1 : decide (at? ns (0 + k) < 0) with
      | true => rw [Bool.true_or]; exact e_or_t (by rw [c1, h1]) rfl
      | false =>
        rw [Bool.false_or]
        refine e_or_f (x := .imm (.bool false)) (by rw [c1, h1]) rfl ?_
        cases h2 : decide ((0 : Int) < 0 + k) with
        | false => rw [Bool.false_and]; exact e_and_f (by rw [c2, h2]) rfl
        | true =>
          have hk0 := of_decide_eq_true h2
          rw [Bool.true_and]
          exact e_and_t (x := .imm (.bool true)) (by rw [c2, h2]) rfl (e_cmp (e_sub rfl (e_bin rfl rfl rfl rfl rfl) rfl rfl (sub_at (t := 0 + k - 1) (by omega))) (e_sub rfl rfl rfl rfl (sub_at (t := 0 + k) (by omega))) rfl rfl rfl)
    · obtain ⟨k, rfl, hk⟩ := range_mem hx
      rfl
  have e : evSs theG (C m) b17 [some (.imm (.list (ns.map .int))), none, none] = .ok (.rt (.imm (.bool ((rangeD 0 ns.length).filter (bD ns)).isEmpty))) [some (.imm (.list (ns.map .int))), none, none] := by
    refine ss_nx (if_f (t_of (x := .imm (.bool false)) (e_or_f (x := .imm (.bool false)) (e_nt (k := true) (x := .imm (.bool true)) (e_isi (x := .imm (.list (ns.map .int))) (d := .list (ns.map .int)) rfl rfl) rfl) rfl e0) rfl) ss_end) (ss_rt (s_rt (e_cmp el rfl rfl rfl ?_)))
    show eqD _ _ = _
    rw [eqD_nil range_flat, List.map_id]
  rw [run_of (G := theG) (F := C m) (fn := fn17) (as := [.imm (.list (ns.map .int))]) rfl e]
  rfl
theorem mem_range {lo hi t : Int} (h : lo ≤ t ∧ t < hi) : PyData.int t ∈ rangeD lo hi := by
  unfold rangeD
  refine List.mem_map.mpr ⟨(t - lo).toNat, List.mem_range.mpr (by omega), ?_⟩
  congr 1
  omega
theorem at_mem {ns : List Int} {t : Int} (h : 0 ≤ t ∧ t < ns.length) : at? ns t ∈ ns := by
  unfold at?
  have hk : t.toNat < ns.length := by omega
  rw [List.getD_eq_getElem?_getD, List.getElem?_eq_getElem hk]
  exact List.getElem_mem hk
theorem mem_at {ns : List Int} {i : Int} (h : i ∈ ns) : ∃ t : Int, (0 ≤ t ∧ t < ns.length) ∧ at? ns t = i := by
  obtain ⟨k, hk, rfl⟩ := List.mem_iff_getElem.mp h
  refine ⟨k, by omega, ?_⟩
  unfold at?
  rw [List.getD_eq_getElem?_getD, show (k : Int).toNat = k from rfl, List.getElem?_eq_getElem hk]; rfl
theorem lot_eq (ns : List Int) : (((ns.map PyData.int).filter negD).isEmpty && ((rangeD 1 ns.length).filter (qD ns)).isEmpty) = ((rangeD 0 ns.length).filter (bD ns)).isEmpty := by
  rw [Bool.eq_iff_iff, Bool.and_eq_true, List.isEmpty_iff, List.isEmpty_iff, List.isEmpty_iff, List.filter_eq_nil_iff, List.filter_eq_nil_iff, List.filter_eq_nil_iff]
  constructor
  · rintro ⟨h1, h2⟩ x hx hb
    obtain ⟨k, rfl, hk⟩ := range_mem hx
    have hb' : (decide (at? ns (0 + k) < 0) || (decide ((0 : Int) < 0 + k) && qD ns (.int (0 + k)))) = true := hb
    rcases Bool.or_eq_true_iff.mp hb' with z | z
    · have z := of_decide_eq_true z
      refine h1 (.int (at? ns (0 + k))) (List.mem_map.mpr ⟨_, at_mem (by omega), rfl⟩) ?_
      show (!decide (0 ≤ at? ns (0 + k))) = true
      rw [decide_eq_false (by omega)]; rfl
    · rw [Bool.and_eq_true] at z
      have z1 := of_decide_eq_true z.1
      exact h2 _ (mem_range (t := 0 + k) (by omega)) z.2
  · intro h
    refine ⟨fun x hx hn => ?_, fun x hx hq => ?_⟩
    · obtain ⟨i, hi, rfl⟩ := List.mem_map.mp hx
      obtain ⟨t, ht, e⟩ := mem_at hi
      have hn' : (!decide (0 ≤ i)) = true := hn
      have h0 : i < 0 := by
        have : decide (0 ≤ i) = false := by simpa using hn'
        have := of_decide_eq_false this
        omega
      refine h _ (mem_range (t := t) (by omega)) ?_
      show (decide (at? ns t < 0) || _) = true
      rw [e, decide_eq_true h0]; rfl
    · obtain ⟨k, rfl, hk⟩ := range_mem hx
      refine h _ (mem_range (t := 1 + k) (by omega)) ?_
      show (_ || (decide ((0 : Int) < 1 + k) && qD ns (.int (1 + k)))) = true
      rw [hq, decide_eq_true (by omega : (0 : Int) < 1 + k)]
      simp
/-- a list of numbers is judged rightly -/
theorem judged_ints (m : Nat) {ns : List Int} (h : ∀ i ∈ ns, Sm i) (hl : ns.length ≤ 100) : C (m + 5) 20 [.imm (.list (ns.map .int))] = .ok (.imm (.bool true)) [.imm (.list (ns.map .int))] := by
  obtain ⟨r, hr⟩ := repr_list h hl
  refine judge m _ r false false _ hr (e_and_f (x := .imm (.bool false)) (e_isi (x := .imm (.list (ns.map .int))) (d := .list (ns.map .int)) rfl rfl) rfl) (t_lname_no (m + 3) _ rfl) (t_llot (m + 3) ns hl) (t_name_no (m + 2) _ rfl) (t_day_no (m + 1) _ rfl) ?_
  rw [← lot_eq]
  exact t_lot (m + 1) ns hl
end PV

namespace PV
open PySem PySem.Spec PyProof.Rows L2 Builtin.Str
/-- a comprehension whose items change the state: I by the turn, of the state without the own names -/
theorem lcLoop_rel {bd : PyData → En → Option En} {c : En → Out Bool} {elt : En → Out PyData} {own : List Nat} (I : Nat → En → Prop) (P : PyData → Prop) (N : Nat) : ∀ (xs acc : List PyData) (k : Nat) (s : En), k + xs.length ≤ N →
    (∀ x ∈ xs, ∀ k w, k < N → I k w → ∃ s1 d s3, bd x w = some s1 ∧ c s1 = .ok true s1 ∧ elt s1 = .ok d s3 ∧ P d ∧ I (k + 1) (wipeE s3 own)) → I k (wipeE s own) →
    ∃ ds s', lcLoop bd c elt own xs acc s = .ok (acc ++ ds) s' ∧ (∀ d ∈ ds, P d) ∧ ds.length = xs.length ∧ I (k + xs.length) (wipeE s' own)
  | [], acc, k, s, _, _, h0 => ⟨[], s, by simp [lcLoop], by simp, rfl, h0⟩
  | x :: xs, acc, k, s, hn, hs, h0 => by
    rw [List.length_cons] at hn
    obtain ⟨s1, d, s3, h1, h2, h3, h4, h5⟩ := hs x (by simp) k _ (by omega) h0
    obtain ⟨ds, s', e1, e2, e3, e4⟩ := lcLoop_rel I P N xs (acc ++ [d]) (k + 1) s3 (by omega) (fun y hy => hs y (by simp [hy])) h5
    refine ⟨d :: ds, s', ?_, ?_, by simp [e3], by rw [List.length_cons, show k + (xs.length + 1) = k + 1 + xs.length by omega]; exact e4⟩
    · simp only [lcLoop, h1, h2, Out.bind_ok, if_true, h3, e1]
      simp
    · intro y hy
      rcases List.mem_cons.mp hy with z | z
      · rw [z]; exact h4
      · exact e2 y z
/-- a text's sign is drawn -/
theorem u_pickS (m : Nat) {B : Int} {g : Slot} (hg : Gd B g) (hB : B < 2 ^ 58) (z : Str) (hz : Tx z) (h0 : 0 < z.length) : ∃ c g', c ∈ z.cps.toList ∧ Gd (B + 2) g' ∧ C (m + 3) 11 [g, .imm (.str z)] = .ok (.imm (.str ⟨#[c]⟩)) [g', .imm (.str z)] := by
  have hlen := hz.ln
  obtain ⟨r, g', k1, k2, k3, e⟩ := u_random m hg hB z.length (by omega)
  obtain ⟨a, b, c, rfl, _⟩ := hg
  obtain ⟨a', b', c', rfl, _⟩ := id k3
  obtain ⟨i, rfl⟩ := Int.eq_ofNat_of_zero_le k1
  have hi : i < z.cps.toList.length := by rw [Array.length_toList]; show i < z.length; omega
  refine ⟨z.cps.toList[i], _, List.getElem_mem hi, k3, ?_⟩
  have h2 : atI z.cps.toList (i : Int) = some z.cps.toList[i] := by rw [atI_nat]; simp [hi]
  have hs : z.length ≤ sizeLine := hz.sz
  rw [C_succ (m + 2) 11 _ fn11 rfl]
  simp only [↓Out.bind, ↓reduceIte, if_true, if_false, ↓runFn, ↓evSs, ↓evS, ↓evE, ↓evEs, ↓evFs, ↓evT, ↓evO, ↓evI, ↓rdv, Slot.dat, ↓opBin, ↓ofO, ↓ofV, Option.bind_some, Option.bind_none, Option.map_some, Option.map_none, List.map_cons, List.map_nil, List.replicate, List.cons_append, List.nil_append, List.getElem?_cons_zero, List.getElem?_cons_succ, List.getElem?_nil, rdAll, ↓opBi, List.set, ↓fzv, ↓tests, ↓frz, truD, ↓opCmp, ltD, leD, ↓finish, ↓endOf, ↓retV, ↓outsOf, headSlot, isTupS, keepsOff, List.headD_cons, List.headD_nil, List.tail_cons, List.tail_nil, List.length_cons, List.length_nil, Bool.false_eq_true, Nat.reduceAdd, Nat.reduceSub, Nat.zero_add, ↓doCall, apart, ↓slotsOf, slotOf, place, ↓back, List.getD_cons_zero, List.getD_cons_succ, Vl.noVr, Bool.and_true, Bool.true_and, Bool.and_self, Bool.not_false, Bool.not_true, List.zip_cons_cons, List.zip_nil_left, List.any_cons, List.any_nil, vrOf, Bool.or_false, Bool.false_or, Bool.and_false, Bool.false_and, and_self, true_and, Int.reduceToNat, Int.reducePow, Int.reduceLE, Int.reduceMul, reduceCtorEq, decide_false, decide_true, md0, md1, md2, md3, md4, md5, md6, md7, md8, md9, md10, md11, md12, md13, md14, md15, md16, md17, md18, md19, md20, md21, sh0, sh1, sh2, sh3, sh4, sh5, sh6, sh7, sh8, sh9, sh10, sh11, sh12, sh13, sh14, sh15, sh16, sh17, sh18, sh19, sh20, sh21, sh22, sh23, sh24, gc0, gc1, gc2, fn11, b11, lenD, subD, e, h2, hs]
/-- a call that hands the generator on -/
theorem call_g {F : CF} {ms : Nat → List Bool} {f : Nat} {d1 d2 d : PyData} {o : Slot} {rest : En} {r : Vl} (hm : ms f = [true, false]) (h : F f [.own d1, .imm d] = .ok r [.own d2, o]) (hr : r.noVr = true) : doCall F ms f [.vr 0, .imm d] (some (.own d1) :: rest) = .ok r (some (.own d2) :: rest) := by
  unfold doCall
  rw [hm]
  show (match F f [.own d1, .imm d] with | .ok r outs => _ | .exc x outs => _ | .stuck => _) = _
  rw [h]
  show (if r.noVr = true then Out.ok r (some (.own d2) :: rest) else .stuck) = _
  rw [if_pos hr]
theorem call_g1 {F : CF} {ms : Nat → List Bool} {f : Nat} {d1 d2 : PyData} {rest : En} {r : Vl} (hm : ms f = [true]) (h : F f [.own d1] = .ok r [.own d2]) (hr : r.noVr = true) : doCall F ms f [.vr 0] (some (.own d1) :: rest) = .ok r (some (.own d2) :: rest) := by
  unfold doCall
  rw [hm]
  show (match F f [.own d1] with | .ok r outs => _ | .exc x outs => _ | .stuck => _) = _
  rw [h]
  show (if r.noVr = true then Out.ok r (some (.own d2) :: rest) else .stuck) = _
  rw [if_pos hr]
theorem Gd.own {B : Int} {g : Slot} (h : Gd B g) : ∃ d, g = .own d := by
  obtain ⟨a, b, c, rfl, _⟩ := h
  exact ⟨_, rfl⟩
/-- _law_random(generator, e): e may draw too -/
theorem e_rand (m : Nat) {B : Int} {g0 g : Slot} {rest : En} {e : E} {n : Int} (h0 : ∃ d, g0 = .own d) (hg : Gd B g) (hB : B < 2 ^ 58) (hn : 0 < n ∧ n < 2 ^ 59) (he : evE theG (C (m + 2)) e (some g0 :: rest) = .ok (.imm (.int n)) (some g :: rest)) :
    ∃ r g', 0 ≤ r ∧ r < n ∧ Gd (B + 2) g' ∧ evE theG (C (m + 2)) (.callk 6 (.cons (.var 0) (.cons e .nil)) .nil) (some g0 :: rest) = .ok (.imm (.int r)) (some g' :: rest) := by
  obtain ⟨r, g', k1, k2, k3, h⟩ := u_random m hg hB n hn
  obtain ⟨d0, rfl⟩ := h0
  obtain ⟨d1, rfl⟩ := hg.own
  obtain ⟨d2, rfl⟩ := k3.own
  refine ⟨r, _, k1, k2, k3, e_callk (es_cons (x := .vr 0) rfl (es_cons he rfl)) rfl ?_⟩
  exact call_g rfl h rfl
theorem call_gF {F : CF} {ms : Nat → List Bool} {f : Nat} {d1 d2 d : PyData} {o : Slot} {rest : En} {r : Vl} (hm : ms f = [true, false]) (h : F f [.own d1, .imm d] = .ok r [.own d2, o]) (hr : r.noVr = true) : doCall F ms f [.vr 0, .fresh d] (some (.own d1) :: rest) = .ok r (some (.own d2) :: rest) := by
  unfold doCall
  rw [hm]
  show (match F f [.own d1, .imm d] with | .ok r outs => _ | .exc x outs => _ | .stuck => _) = _
  rw [h]
  show (if r.noVr = true then Out.ok r (some (.own d2) :: rest) else .stuck) = _
  rw [if_pos hr]
/-- _law_pick(generator, [..]) -/
theorem e_pickF (m : Nat) {B : Int} {g : Slot} {rest : En} {e : E} {ds : List PyData} (hg : Gd B g) (hB : B < 2 ^ 58) (h0 : ds ≠ []) (hl : ds.length < 2 ^ 59) (he : evE theG (C (m + 3)) e (some g :: rest) = .ok (.fresh (.list ds)) (some g :: rest)) :
    ∃ d g', d ∈ ds ∧ Gd (B + 2) g' ∧ evE theG (C (m + 3)) (.callk 9 (.cons (.var 0) (.cons e .nil)) .nil) (some g :: rest) = .ok (.imm d) (some g' :: rest) := by
  obtain ⟨d, g', k1, k2, h⟩ := u_pick m hg hB ds h0 hl
  obtain ⟨d1, rfl⟩ := hg.own
  obtain ⟨d2, rfl⟩ := k2.own
  refine ⟨d, _, k1, k2, e_callk (es_cons (x := .vr 0) rfl (es_cons he rfl)) rfl ?_⟩
  exact call_gF rfl h rfl
end PV

namespace PV
open PySem PySem.Spec PyProof.Rows L2 Builtin.Str
/-- a comprehension that draws: its state one slot of one's own ahead, its own slot last -/
theorem e_lc_rel {G : Cf} {F : CF} {s s1 : En} {elt : E} {it : It} {i : Nat} {ds : List PyData} (I : Nat → En → Prop) (P : PyData → Prop) (hi : evI G F it s = .ok (ds, []) s1) (hq : (quietE s1 [i] && lenOk it ds) = true) (hlk : locks s1 [] = s1)
    (hs : ∀ x ∈ ds, ∀ k w, k < ds.length → I k w → ∃ d s3, frz (evE G F elt) (w.set i (some (.imm x))) = .ok d s3 ∧ P d ∧ I (k + 1) (wipeE s3 [i])) (h0 : I 0 (wipeE s1 [i])) :
    ∃ rs s', evE G F (.lc elt (.v i) it .no [i]) s = .ok (.fresh (.list rs)) (unlocks (restE s1 s' [i]) []) ∧ (∀ d ∈ rs, P d) ∧ rs.length = ds.length ∧ I ds.length (wipeE s' [i]) := by
  have h : evE G F (.lc elt (.v i) it .no [i]) s = (evI G F it s).bind fun p s1 => if (quietE s1 [i] && lenOk it p.1) = true then (noX (lcLoop (bindT (.v i)) (evT G F .no) (frz (evE G F elt)) [i] p.1 [] (locks s1 (lokI s1 p.2)))).bind fun ds s2 => .ok (.fresh (.list ds)) (unlocks (restE s1 s2 [i]) (lokI s1 p.2)) else .stuck := by simp only [evE]
  obtain ⟨rs, s', e1, e2, e3, e4⟩ := lcLoop_rel (bd := bindT (.v i)) (c := evT G F .no) (elt := frz (evE G F elt)) (own := [i]) I P ds.length ds [] 0 s1 (by omega) (fun x hx k w hk hw => by
    obtain ⟨d, s3, h1, h2, h3⟩ := hs x hx k w hk hw
    exact ⟨_, d, s3, rfl, rfl, h1, h2, h3⟩) h0
  refine ⟨rs, s', ?_, e2, e3, by rw [Nat.zero_add] at e4; exact e4⟩
  rw [h, hi, Out.bind_ok]
  show (if (quietE s1 [i] && lenOk it ds) = true then _ else _) = _
  rw [if_pos hq]
  show (noX (lcLoop (bindT (.v i)) (evT G F .no) (frz (evE G F elt)) [i] ds [] (locks s1 []))).bind _ = _
  rw [hlk, e1]; rfl
theorem pow12 : opBin .pow (.int 10) (.int 12) = some (.imm (.int 1000000000000)) := by
  show (if 0 ≤ (12 : Int) ∧ ((Builtin.Int.intBits 10 : Nat) : Int) * 12 ≤ 2 ^ 27 then some (Vl.imm (.int ((10 : Int) ^ (12 : Int).toNat))) else none) = _
  rw [if_pos (by decide +kernel)]
  rfl
/-- one drawn number -/
theorem num_elt (m : Nat) {B : Int} {g : Slot} {x : Option Slot} (hg : Gd B g) (hB : B < 2 ^ 57) : ∃ i g', Sm i ∧ Gd (B + 6) g' ∧ evE theG (C (m + 3)) (.bin .sub (.callk 6 (.cons (.var 0) (.cons (.callk 9 (.cons (.var 0) (.cons (.lst (.cons (.cn (.int 3)) (.cons (.cn (.int 9)) (.cons (.bin .pow (.cn (.int 10)) (.cn (.int 12))) .nil)))) .nil)) .nil) .nil)) .nil) (.callk 6 (.cons (.var 0) (.cons (.cn (.int 2)) .nil)) .nil)) [some g, x] = .ok (.imm (.int i)) [some g', x] := by
  have hl : evE theG (C (m + 3)) (.lst (.cons (.cn (.int 3)) (.cons (.cn (.int 9)) (.cons (.bin .pow (.cn (.int 10)) (.cn (.int 12))) .nil)))) [some g, x] = .ok (.fresh (.list [.int 3, .int 9, .int 1000000000000])) [some g, x] :=
    e_lst (fs_cons rfl (fs_cons rfl (fs_cons (e_bin rfl rfl rfl rfl pow12) rfl)))
  obtain ⟨d, g1, hd, k1, e1⟩ := e_pickF m hg (by omega) (by simp) (by decide) hl
  have hd' : ∃ n : Int, d = .int n ∧ 0 < n ∧ n ≤ 1000000000000 := by
    simp at hd
    rcases hd with rfl | rfl | rfl
    · exact ⟨3, rfl, by decide, by decide⟩
    · exact ⟨9, rfl, by decide, by decide⟩
    · exact ⟨1000000000000, rfl, by decide, by decide⟩
  obtain ⟨n, rfl, n1, n2⟩ := hd'
  obtain ⟨r1, g2, p1, p2, k2, e2⟩ := e_rand (m + 1) hg.own k1 (by omega) (by omega) e1
  obtain ⟨r2, g3, p3, p4, k3, e3⟩ := e_rand (m + 1) k2.own k2 (by omega) (n := 2) (by decide) (rest := [x]) (e := .cn (.int 2)) rfl
  refine ⟨r1 - r2, g3, ?_, k3.mono (by omega), e_bin e2 e3 rfl rfl rfl⟩
  unfold Sm
  omega
theorem wipe_two {s : En} {a : Option Slot} (h : wipeE s [1] = [a, none]) : ∃ x, s = [a, x] := by
  match s, h with
  | [b, x], h =>
    simp [wipeE, mapI] at h
    exact ⟨x, by rw [h]⟩
  | [], h => simp [wipeE, mapI] at h
  | [_], h => simp [wipeE, mapI] at h
  | _ :: _ :: _ :: _, h => simp [wipeE, mapI] at h
/-- _law_numbers(generator) -/
theorem u_numbers (m : Nat) {B : Int} {g : Slot} (hg : Gd B g) (hB : B < 2 ^ 50) : ∃ (ns : List Int) (g' : Slot), (∀ i ∈ ns, Sm i) ∧ ns.length ≤ 6 ∧ Gd (B + 40) g' ∧ C (m + 4) 19 [g] = .ok (.fresh (.list (ns.map .int))) [g'] := by
  rw [C_succ (m + 3) 19 _ fn19 rfl]
  obtain ⟨r, g1, p1, p2, k1, e1⟩ := e_rand (m + 1) hg.own hg (by omega) (n := 6) (by decide) (rest := [none]) (e := .cn (.int 6)) rfl
  have hi := i_rng1 e1 (small_of (by omega))
  obtain ⟨d1, hd1⟩ := k1.own
  have hlen : (rangeD 0 r).length = r.toNat := by simp [rangeD]
  have hq : (quietE [some g1, none] [1] && lenOk (.rng1 (.callk 6 (.cons (.var 0) (.cons (.cn (.int 6)) .nil)) .nil)) (rangeD 0 r)) = true := by
    show (true && (!true || decide ((rangeD 0 r).length ≤ sizeLine))) = true
    rw [rlen_ok (by omega)]; rfl
  have hlk : locks [some g1, none] [] = [some g1, none] := by subst hd1; rfl
  obtain ⟨rs, s', q1, q2, q3, q4⟩ := e_lc_rel (elt := .bin .sub (.callk 6 (.cons (.var 0) (.cons (.callk 9 (.cons (.var 0) (.cons (.lst (.cons (.cn (.int 3)) (.cons (.cn (.int 9)) (.cons (.bin .pow (.cn (.int 10)) (.cn (.int 12))) .nil)))) .nil)) .nil) .nil)) .nil) (.callk 6 (.cons (.var 0) (.cons (.cn (.int 2)) .nil)) .nil)) (i := 1)
    (fun k w => ∃ g', Gd (B + 2 + 6 * k) g' ∧ w = [some g', none]) (fun d => ∃ i, d = .int i ∧ Sm i) hi hq hlk (fun x hx k w hk hw => by
      obtain ⟨g', gg, rfl⟩ := hw
      obtain ⟨i, g2, h1, h2, h3⟩ := num_elt m (x := some (.imm x)) gg (by omega)
      obtain ⟨d2, hd2⟩ := h2.own
      refine ⟨.int i, [some g2, some (.imm x)], ?_, ⟨i, rfl, h1⟩, g2, h2.mono (by omega), by subst hd2; rfl⟩
      show frz _ [some g', some (.imm x)] = _
      unfold frz
      rw [h3]; rfl) ⟨g1, k1.mono (by omega), by subst hd1; rfl⟩
  obtain ⟨g3, h3, hw⟩ := q4
  obtain ⟨y, rfl⟩ := wipe_two hw
  obtain ⟨ns, hns, hsm⟩ : ∃ ns : List Int, rs = ns.map .int ∧ ∀ i ∈ ns, Sm i := by
    clear q1 q3
    induction rs with
    | nil => exact ⟨[], rfl, by simp⟩
    | cons d rs ih =>
      obtain ⟨ns, e, f⟩ := ih fun x hx => q2 x (by simp [hx])
      obtain ⟨i, rfl, hi⟩ := q2 d (by simp)
      refine ⟨i :: ns, by rw [e]; rfl, fun j hj => ?_⟩
      rcases List.mem_cons.mp hj with z | z
      · rw [z]; exact hi
      · exact f j z
  subst hns
  have hl : ns.length ≤ 6 := by rw [List.length_map] at q3; omega
  refine ⟨ns, g3, hsm, hl, h3.mono (by rw [hlen]; omega), ?_⟩
  obtain ⟨d3, hd3⟩ := h3.own
  subst hd3
  have e : evSs theG (C (m + 3)) b19 [some g, none] = .ok (.rt (.fresh (.list (ns.map .int)))) [some (.own d3), none] := ss_rt (s_rt q1)
  rw [run_of (G := theG) (F := C (m + 3)) (fn := fn19) (as := [g]) rfl e]
  rfl
end PV

namespace PV
open PySem PySem.Spec PyProof.Rows L2 Builtin.Str
theorem in_ints (i : Int) (fs : List Int) : ∃ b, inD (.int i) (.list (fs.map .int)) = some b := by
  have h : (flatD (.int i) && (fs.map PyData.int).all flatD || SeqAt.shaped (.int i) && SeqAt.shaped (.list (fs.map .int))) = true := by
    have h1 : (fs.map PyData.int).all flatD = true := by
      rw [List.all_map, List.all_eq_true]
      intro x _; rfl
    rw [h1]; rfl
  exact ⟨_, by rw [inL_eq, if_pos h]⟩
theorem v_app {G : Cf} {F : CF} {i : Nat} {e : E} {s s1 : En} {d : PyData} {ds : List PyData} (h0 : isOwnL s i = true) (he : evE G F e s = .ok (.imm d) s1) (h1 : s1[i]? = some (some (.own (.list ds)))) (hl : ds.length < sizeLine) : evS G F (.app i e) s = .ok .nx (s1.set i (some (.own (.list (ds ++ [d]))))) := by
  have h : evS G F (.app i e) s = if isOwnL s i = true then (frz (evE G F e) s).bind fun d s1 => match s1[i]? with
      | some (some (.own (.list ds))) => if ds.length < sizeLine then .ok .nx (s1.set i (some (.own (.list (ds ++ [d]))))) else .stuck
      | _ => .stuck
    else .stuck := by simp only [evS] <;> rfl
  rw [h, if_pos h0]
  unfold frz
  rw [he]
  show (match s1[i]? with
      | some (some (.own (.list ds))) => if ds.length < sizeLine then Out.ok Fl.nx (s1.set i (some (.own (.list (ds ++ [d]))))) else .stuck
      | _ => .stuck) = _
  rw [h1]
  show (if ds.length < sizeLine then _ else _) = _
  rw [if_pos hl]
theorem unlike_loop (m : Nat) (it : PyData) : ∀ (xs fs : List Int) (x : Option Slot), fs.length + xs.length ≤ 1000 → ∃ (gs : List Int) (y : Option Slot), (∀ i ∈ gs, i ∈ fs ∨ i ∈ xs) ∧ gs.length ≤ fs.length + xs.length ∧
    forLoop (bindT (.v 2)) (evSs theG (C m) b14x0) (xs.map .int) [some (.imm it), some (.own (.list (fs.map .int))), x] = .ok .nx [some (.imm it), some (.own (.list (gs.map .int))), y]
  | [], fs, x, _ => ⟨fs, x, fun i h => .inl h, by simp, rfl⟩
  | i :: xs, fs, x, hl => by
    rw [List.length_cons] at hl
    obtain ⟨b, hb⟩ := in_ints i fs
    have ht : tests (evE theG (C m) (.cmp .nin (.var 2) (.var 1))) [some (.imm it), some (.own (.list (fs.map .int))), some (.imm (.int i))] = .ok (!b) [some (.imm it), some (.own (.list (fs.map .int))), some (.imm (.int i))] := by
      refine t_of (x := .imm (.bool (!b))) (e_cmp (x := .imm (.int i)) (y := .vr 1) rfl rfl rfl rfl ?_) rfl
      show (inD (.int i) (.list (fs.map .int))).map (!·) = _
      rw [hb]; rfl
    cases b with
    | true =>
      obtain ⟨gs, y, h1, h2, h3⟩ := unlike_loop m it xs fs (some (.imm (.int i))) (by omega)
      refine ⟨gs, y, fun j hj => (h1 j hj).imp id fun z => by simp [z], by rw [List.length_cons]; omega, ?_⟩
      exact loop_nx rfl (ss_nx (if_f ht ss_end) ss_end) h3
    | false =>
      obtain ⟨gs, y, h1, h2, h3⟩ := unlike_loop m it xs (fs ++ [i]) (some (.imm (.int i))) (by rw [List.length_append]; simp; omega)
      refine ⟨gs, y, fun j hj => ?_, by rw [List.length_append] at h2; simp at h2 ⊢; omega, ?_⟩
      · rcases h1 j hj with z | z
        · rcases List.mem_append.mp z with z | z
          · exact .inl z
          · have : j = i := by simpa using z
            subst this; exact .inr (by simp)
        · exact .inr (by simp [z])
      · refine loop_nx rfl (ss_nx (if_t ht (ss_nx (v_app (d := .int i) (ds := fs.map .int) rfl rfl rfl (by rw [List.length_map, sizeLine_eq]; omega)) ss_end)) ss_end) ?_
        rw [show [PyData.int i] = [i].map PyData.int from rfl, ← List.map_append]
        exact h3
theorem sorted_ints (ns : List Int) : opBi .sorted [.list (ns.map .int)] = some (.fresh (.list ((sortI ns).map .int))) := by
  show (ints? (ns.map .int)).map (fun ns => Vl.fresh (.list ((sortI ns).map .int))) = _
  rw [ints_map]; rfl
/-- _law_unlike(items) -/
theorem u_unlike (m : Nat) (ns : List Int) (hl : ns.length ≤ 100) : ∃ gs : List Int, (∀ i ∈ gs, i ∈ ns) ∧ gs.length ≤ ns.length ∧ C (m + 1) 14 [.imm (.list (ns.map .int))] = .ok (.fresh (.list (gs.map .int))) [.imm (.list (ns.map .int))] := by
  rw [C_succ m 14 _ fn14 rfl]
  have hp := sortI_perm ns
  have hpl := hp.length_eq
  obtain ⟨gs, y, h1, h2, h3⟩ := unlike_loop m (.list (ns.map .int)) (sortI ns) [] none (by simp; omega)
  refine ⟨gs, fun i hi => ?_, by simp at h2; omega, ?_⟩
  · rcases h1 i hi with z | z
    · simp at z
    · exact hp.mem_iff.mp z
  have hi : evI theG (C m) (.seq (.bi .sorted (.cons (.var 0) .nil))) [some (.imm (.list (ns.map .int))), some (.own (.list [])), none] = .ok ((sortI ns).map .int, [.fresh (.list ((sortI ns).map .int))]) [some (.imm (.list (ns.map .int))), some (.own (.list [])), none] :=
    i_seqL (e_bi (es_cons rfl rfl) rfl (sorted_ints ns)) rfl
  have hf := for_ok (tg := .v 2) hi (s2 := [some (.imm (.list (ns.map .int))), some (.own (.list (gs.map .int))), y]) (f := .nx) (b := b14x0) h3
  have hu : unlocks [some (Slot.imm (.list (ns.map .int))), some (.own (.list (gs.map .int))), y] (lokI [some (Slot.imm (.list (ns.map .int))), some (.own (.list [])), none] [Vl.fresh (.list ((sortI ns).map .int))]) = [some (.imm (.list (ns.map .int))), some (.own (.list (gs.map .int))), unlockX [] 2 y] := rfl
  simp only at hf
  rw [hu] at hf
  have e : evSs theG (C m) b14 [some (.imm (.list (ns.map .int))), none, none] = .ok (.rt (.vr 1)) [some (.imm (.list (ns.map .int))), some (.own (.list (gs.map .int))), unlockX [] 2 y] :=
    ss_nx (s_asgF (i := 1) (e_lst (ds := []) rfl)) (ss_nx hf (ss_rt (s_rt rfl)))
  rw [run_of (G := theG) (F := C m) (fn := fn14) (as := [.imm (.list (ns.map .int))]) rfl e]
  rfl
end PV

namespace PV
open PySem PySem.Spec PyProof.Rows L2 Builtin.Str
theorem str_elt (m : Nat) {B : Int} {g : Slot} {x : Option Slot} (z : Str) (hz : Tx z) (h0 : 0 < z.length) (hg : Gd B g) (hB : B < 2 ^ 57) : ∃ c g', c ∈ z.cps.toList ∧ Gd (B + 2) g' ∧ evE theG (C (m + 3)) (.callk 9 (.cons (.var 0) (.cons (.var 1) .nil)) .nil) [some g, some (.imm (.str z)), x] = .ok (.imm (.str ⟨#[c]⟩)) [some g', some (.imm (.str z)), x] := by
  obtain ⟨c, g', k1, k2, h⟩ := u_pickS m hg (by omega) z hz h0
  obtain ⟨d1, rfl⟩ := hg.own
  obtain ⟨d2, rfl⟩ := k2.own
  refine ⟨c, _, k1, k2, e_callk (es_cons (x := .vr 0) rfl (es_cons (x := .imm (.str z)) rfl rfl)) rfl ?_⟩
  exact call_g rfl h rfl
theorem wipe_three {s : En} {a b : Option Slot} (h : wipeE s [2] = [a, b, none]) : ∃ x, s = [a, b, x] := by
  match s, h with
  | [a', b', x], h =>
    simp [wipeE, mapI] at h
    exact ⟨x, by rw [h.1, h.2]⟩
  | [], h => simp [wipeE, mapI] at h
  | [_], h => simp [wipeE, mapI] at h
  | [_, _], h => simp [wipeE, mapI] at h
  | _ :: _ :: _ :: _ :: _, h => simp [wipeE, mapI] at h
end PV

namespace PV
open PySem PySem.Spec PyProof.Rows L2 Builtin.Str
theorem strs_map : ∀ ys : List Str, strs? (ys.map .str) = some ys
  | [] => rfl
  | y :: r => by
    show (strs? (r.map .str)).map (y :: ·) = _
    rw [strs_map r]; rfl
theorem txt_join (sep : Str) (ys : List Str) : Txt.join sep ys = Str.join sep ys := by
  cases ys with
  | nil => rfl
  | cons a r => exact StrLaws.glued_eq_join _ _
theorem e_join {G : Cf} {F : CF} {a b : E} {s s1 s2 : En} {x y : Vl} {w : Str} {ys : List Str} (ha : evE G F a s = .ok x s1) (hx1 : (rdv s1 x).any (meT .join) = true) (hb : evE G F b s1 = .ok y s2) (hx : rdv s2 x = some (.str w)) (hy : rdv s2 y = some (.list (ys.map .str))) (hl : (ys.map (·.length)).sum + ys.length * w.length ≤ 16777216) : evE G F (.me .join a (.cons b .nil)) s = .ok (.imm (.str (Txt.join w ys))) s2 := by
  have h : evE G F (.me .join a (.cons b .nil)) s = (evE G F a s).bind fun x s1 => if (rdv s1 x).any (meT .join) = true then (evEs G F (.cons b .nil) s1).bind fun vs s2 => ofO s2 ((rdv s2 x).bind fun d => (rdAll s2 vs).bind fun ds => opMe .join d ds) else .stuck := by simp only [evE]
  rw [h, ha, Out.bind_ok, if_pos hx1, es_cons hb rfl, Out.bind_ok, hx]
  show ofO s2 ((rdAll s2 [y]).bind fun ds => opMe .join (.str w) ds) = _
  have e : rdAll s2 [y] = some [.list (ys.map .str)] := by
    simp only [rdAll, hy, Option.bind_some, Option.map_some, List.mapM_cons, List.mapM_nil]; try rfl
  rw [e]
  show ofO s2 ((strs? (ys.map .str)).bind _) = _
  rw [strs_map]
  show ofO s2 (if _ then _ else _) = _
  rw [if_pos hl]; rfl
/-- many texts of one sign joined -/
theorem tx_join {ys : List Str} (h : ∀ y ∈ ys, ∃ c, y = ⟨#[c]⟩ ∧ c < 128) (hl : ys.length ≤ 1000) : Tx (Txt.join "" ys) ∧ (ys.map (·.length)).sum = ys.length := by
  have hs : (ys.map (·.length)).sum = ys.length := by
    clear hl
    induction ys with
    | nil => rfl
    | cons a r ih =>
      obtain ⟨c, rfl, _⟩ := h a (by simp)
      simp only [List.map_cons, List.sum_cons, List.length_cons, ih fun y hy => h y (by simp [hy])]
      show 1 + _ = _
      omega
  refine ⟨⟨fun c hc => ?_, ?_⟩, hs⟩
  · rw [txt_join, mem_join] at hc
    rcases hc with ⟨t, ht, hc⟩ | ⟨_, hc⟩
    · obtain ⟨k, rfl, hk⟩ := h t ht
      simp at hc
      omega
    · rw [show (("" : Str)).cps.toList = [] from rfl] at hc; cases hc
  · rw [txt_join]
    cases ys with
    | nil => exact Nat.zero_le _
    | cons a r =>
      rw [len_join_cons, hs]
      show _ + r.length * 0 ≤ _
      omega

theorem sg_of {z : Str} (h : z = "ab" ∨ z = "abcdefghijklmnopqrstuvwxyz" ∨ z = "a0123456789" ∨ z = "aZ_ -~" ∨ z = "a0\n\t") : Tx z ∧ 0 < z.length := by
  rcases h with rfl | rfl | rfl | rfl | rfl
  all_goals exact ⟨⟨by decide +kernel, by decide +kernel⟩, by decide +kernel⟩
/-- _law_string(generator) -/
theorem u_string (m : Nat) {B : Int} {g : Slot} (hg : Gd B g) (hB : B < 2 ^ 50) : ∃ (z : Str) (g' : Slot), Tx z ∧ Gd (B + 60) g' ∧ C (m + 4) 18 [g] = .ok (.imm (.str z)) [g'] := by
  rw [C_succ (m + 3) 18 _ fn18 rfl]
  have hl : evE theG (C (m + 3)) (.lst (.cons (.cn (.str "ab")) (.cons (.cn (.str "abcdefghijklmnopqrstuvwxyz")) (.cons (.cn (.str "a0123456789")) (.cons (.cn (.str "aZ_ -~")) (.cons (.cn (.str "a0\n\t")) .nil)))))) [some g, none, none] = .ok (.fresh (.list [.str "ab", .str "abcdefghijklmnopqrstuvwxyz", .str "a0123456789", .str "aZ_ -~", .str "a0\n\t"])) [some g, none, none] :=
    e_lst (fs_cons rfl (fs_cons rfl (fs_cons rfl (fs_cons rfl (fs_cons rfl rfl)))))
  obtain ⟨d, g0, hd, k0, e0⟩ := e_pickF m hg (by omega) (by simp) (by decide) hl
  have hz : ∃ z, d = .str z ∧ (Tx z ∧ 0 < z.length) := by
    simp at hd
    rcases hd with rfl | rfl | rfl | rfl | rfl <;> exact ⟨_, rfl, sg_of (by simp)⟩
  obtain ⟨z, rfl, tz, lz⟩ := hz
  obtain ⟨r, g1, p1, p2, k1, e1⟩ := e_rand (m + 1) k0.own k0 (by omega) (n := 24) (by decide) (rest := [some (.imm (.str z)), none]) (e := .cn (.int 24)) rfl
  have hi := i_rng1 e1 (small_of (by omega))
  obtain ⟨d1, hd1⟩ := k1.own
  have hlen : (rangeD 0 r).length = r.toNat := by simp [rangeD]
  have hq : (quietE [some g1, some (.imm (.str z)), none] [2] && lenOk (.rng1 (.callk 6 (.cons (.var 0) (.cons (.cn (.int 24)) .nil)) .nil)) (rangeD 0 r)) = true := by
    show (true && (!true || decide ((rangeD 0 r).length ≤ sizeLine))) = true
    rw [rlen_ok (by omega)]; rfl
  have hlk : locks [some g1, some (.imm (.str z)), none] [] = [some g1, some (.imm (.str z)), none] := by subst hd1; rfl
  obtain ⟨rs, s', q1, q2, q3, q4⟩ := e_lc_rel (elt := .callk 9 (.cons (.var 0) (.cons (.var 1) .nil)) .nil) (i := 2)
    (fun k w => ∃ g', Gd (B + 4 + 2 * k) g' ∧ w = [some g', some (.imm (.str z)), none]) (fun d => ∃ c, d = .str ⟨#[c]⟩ ∧ c < 128) hi hq hlk (fun x hx k w hk hw => by
      obtain ⟨g', gg, rfl⟩ := hw
      obtain ⟨c, g2, h1, h2, h3⟩ := str_elt m (x := some (.imm x)) z tz lz gg (by omega)
      obtain ⟨d2, hd2⟩ := h2.own
      refine ⟨.str ⟨#[c]⟩, [some g2, some (.imm (.str z)), some (.imm x)], ?_, ⟨c, rfl, tz.cs c h1⟩, g2, h2.mono (by omega), by subst hd2; rfl⟩
      show frz _ [some g', some (.imm (.str z)), some (.imm x)] = _
      unfold frz
      rw [h3]; rfl) ⟨g1, k1.mono (by omega), by subst hd1; rfl⟩
  obtain ⟨g3, h3, hw⟩ := q4
  obtain ⟨y, rfl⟩ := wipe_three hw
  obtain ⟨ys, hys, hsm⟩ : ∃ ys : List Str, rs = ys.map .str ∧ ∀ y ∈ ys, ∃ c, y = ⟨#[c]⟩ ∧ c < 128 := by
    clear q1 q3
    induction rs with
    | nil => exact ⟨[], rfl, by simp⟩
    | cons d rs ih =>
      obtain ⟨ns, e, f⟩ := ih fun x hx => q2 x (by simp [hx])
      obtain ⟨c, rfl, hi⟩ := q2 d (by simp)
      refine ⟨⟨#[c]⟩ :: ns, by rw [e]; rfl, fun j hj => ?_⟩
      rcases List.mem_cons.mp hj with w | w
      · rw [w]; exact ⟨c, rfl, hi⟩
      · exact f j w
  subst hys
  have hl2 : ys.length ≤ 24 := by rw [List.length_map] at q3; omega
  obtain ⟨tj, sj⟩ := tx_join hsm (by omega)
  refine ⟨_, g3, tj, h3.mono (by rw [hlen]; omega), ?_⟩
  obtain ⟨d3, hd3⟩ := h3.own
  subst hd3
  have ej := e_join (F := C (m + 3)) (G := theG) (a := .cn (.str "")) (x := .imm (.str "")) (s := [some g0, some (.imm (.str z)), none]) (w := "") (ys := ys) rfl rfl q1 rfl rfl (by rw [sj]; show _ + _ * 0 ≤ _; omega)
  obtain ⟨d0, hd0⟩ := k0.own
  subst hd0
  have e : evSs theG (C (m + 3)) b18 [some g, none, none] = .ok (.rt (.imm (.str (Txt.join "" ys)))) [some (.own d3), some (.imm (.str z)), none] := ss_nx (s_asgI e0) (ss_rt (s_rt ej))
  rw [run_of (G := theG) (F := C (m + 3)) (fn := fn18) (as := [g]) rfl e]
  rfl
end PV

namespace PV
open PySem PySem.Spec PyProof.Rows L2 Builtin.Str
/-- _law_pick on a list that is the caller's own -/
theorem u_pickB (m : Nat) {B : Int} {g : Slot} (hg : Gd B g) (hB : B < 2 ^ 58) (ds : List PyData) (h0 : ds ≠ []) (hl : ds.length < 2 ^ 59) : ∃ d g', d ∈ ds ∧ Gd (B + 2) g' ∧ C (m + 3) 11 [g, .bor (.list ds)] = .ok (.imm d) [g', .bor (.list ds)] := by
  have hp : 0 < ds.length := List.length_pos_iff.mpr h0
  obtain ⟨r, g', k1, k2, k3, e⟩ := u_random m hg hB ds.length (by omega)
  obtain ⟨a, b, c, rfl, _⟩ := hg
  obtain ⟨a', b', c', rfl, _⟩ := id k3
  obtain ⟨i, rfl⟩ := Int.eq_ofNat_of_zero_le k1
  have hi : i < ds.length := by omega
  refine ⟨ds[i], _, List.getElem_mem hi, k3, ?_⟩
  have h2 : atI ds (i : Int) = some ds[i] := by rw [atI_nat]; simp [hi]
  rw [C_succ (m + 2) 11 _ fn11 rfl]
  simp only [↓Out.bind, ↓reduceIte, if_true, if_false, ↓runFn, ↓evSs, ↓evS, ↓evE, ↓evEs, ↓evFs, ↓evT, ↓evO, ↓evI, ↓rdv, Slot.dat, ↓opBin, ↓ofO, ↓ofV, Option.bind_some, Option.bind_none, Option.map_some, Option.map_none, List.map_cons, List.map_nil, List.replicate, List.cons_append, List.nil_append, List.getElem?_cons_zero, List.getElem?_cons_succ, List.getElem?_nil, rdAll, ↓opBi, List.set, ↓fzv, ↓tests, ↓frz, truD, ↓opCmp, ltD, leD, ↓finish, ↓endOf, ↓retV, ↓outsOf, headSlot, isTupS, keepsOff, List.headD_cons, List.headD_nil, List.tail_cons, List.tail_nil, List.length_cons, List.length_nil, Bool.false_eq_true, Nat.reduceAdd, Nat.reduceSub, Nat.zero_add, ↓doCall, apart, ↓slotsOf, slotOf, place, ↓back, List.getD_cons_zero, List.getD_cons_succ, Vl.noVr, Bool.and_true, Bool.true_and, Bool.and_self, Bool.not_false, Bool.not_true, List.zip_cons_cons, List.zip_nil_left, List.any_cons, List.any_nil, vrOf, Bool.or_false, Bool.false_or, Bool.and_false, Bool.false_and, and_self, true_and, Int.reduceToNat, Int.reducePow, Int.reduceLE, Int.reduceMul, reduceCtorEq, decide_false, decide_true, md0, md1, md2, md3, md4, md5, md6, md7, md8, md9, md10, md11, md12, md13, md14, md15, md16, md17, md18, md19, md20, md21, sh0, sh1, sh2, sh3, sh4, sh5, sh6, sh7, sh8, sh9, sh10, sh11, sh12, sh13, sh14, sh15, sh16, sh17, sh18, sh19, sh20, sh21, sh22, sh23, sh24, gc0, gc1, gc2, fn11, b11, lenD, subD, e, h2]
end PV

namespace PV
open PySem PySem.Spec PyProof.Rows L2 Builtin.Str
def ss3 : Ss → Ss
  | .cons a (.cons b (.cons c _)) => .cons a (.cons b (.cons c .nil))
  | x => x
def menu : List PyData := match evSs theG (C 0) (ss3 b15) [none, none] with
  | .ok .nx [_, some (.own (.list ds))] => ds
  | _ => []
def vlD : Vl → Option PyData
  | .imm d => some d
  | .fresh d => some d
  | .vr _ => none
def slD : List Slot → Bool
  | [.imm _] => true
  | _ => false
def chkM (d : PyData) : Bool := match C 58 12 [.imm d] with
  | .ok v o => slD o && (match vlD v with
    | some e => (match C 59 20 [.imm e] with
      | .ok (.imm (.bool true)) o2 => slD o2
      | _ => false)
    | none => false)
  | _ => false
theorem menu_ok : (!menu.isEmpty && decide (menu.length < 1000) && menu.all chkM) = true := by decide +kernel
theorem menu_law {d : PyData} (h : d ∈ menu) : ∃ v e o o2, C 58 12 [.imm d] = .ok v [.imm o] ∧ vlD v = some e ∧ C 59 20 [.imm e] = .ok (.imm (.bool true)) [.imm o2] := by
  have hk := menu_ok
  simp only [Bool.and_eq_true, List.all_eq_true] at hk
  have h1 := hk.2 d h
  unfold chkM at h1
  split at h1
  · rename_i v o e1
    rw [Bool.and_eq_true] at h1
    obtain ⟨ho, h2⟩ := h1
    split at h2
    · rename_i e e2
      split at h2
      · rename_i o2 e3
        obtain ⟨x, rfl⟩ : ∃ x, o = [.imm x] := by
          match o, ho with
          | [.imm x], _ => exact ⟨x, rfl⟩
        obtain ⟨y, rfl⟩ : ∃ x, o2 = [.imm x] := by
          match o2, h2 with
          | [.imm x], _ => exact ⟨x, rfl⟩
        exact ⟨v, e, x, y, e1, e2, e3⟩
      · cases h2
    · cases h2
  · cases h1
end PV

namespace PV
open PySem PySem.Spec PyProof.Rows L2 Builtin.Str
theorem menu_ev (F : CF) (g : Slot) : evSs theG F (ss3 b15) [some g, none] = .ok .nx [some g, some (.own (.list menu))] := by kernel_rfl
theorem ss_cut {G : Cf} {F : CF} {x : S} {r : Ss} {s s' : En} (h : evSs G F (.cons x r) s = .ok .nx s') : ∃ s1, evS G F x s = .ok .nx s1 ∧ evSs G F r s1 = .ok .nx s' := by
  simp only [evSs] at h
  cases e : evS G F x s with
  | ok f s1 =>
    rw [e, Out.bind_ok] at h
    cases f with
    | nx => exact ⟨s1, rfl, h⟩
    | _ => cases h
  | _ => rw [e] at h; cases h
theorem call_gB {F : CF} {ms : Nat → List Bool} {f : Nat} {d1 d2 d : PyData} {o : Slot} {rest : En} {r : Vl} (hm : ms f = [true, false]) (h : F f [.own d1, .bor d] = .ok r [.own d2, o]) (hr : r.noVr = true) : doCall F ms f [.vr 0, .vr 1] (some (.own d1) :: some (.own d) :: rest) = .ok r (some (.own d2) :: some (.own d) :: rest) := by
  unfold doCall
  rw [hm]
  show (match F f [.own d1, .bor d] with | .ok r outs => _ | .exc x outs => _ | .stuck => _) = _
  rw [h]
  show (if r.noVr = true then Out.ok r (some (.own d2) :: some (.own d) :: rest) else .stuck) = _
  rw [if_pos hr]
/-- _law_any(generator), as the law calls it -/
theorem u_any {B : Int} {g : Slot} (hg : Gd B g) (hB : B < 2 ^ 50) : ∃ (v : Vl) (e : PyData) (g' : Slot), vlD v = some e ∧ (∃ o, C 59 20 [.imm e] = .ok (.imm (.bool true)) [.imm o]) ∧ Gd (B + 2) g' ∧ C 59 15 [g] = .ok v [g'] := by
  rw [C_succ 58 15 _ fn15 rfl]
  have hk := menu_ok
  simp only [Bool.and_eq_true, decide_eq_true_eq, Bool.not_eq_true', List.isEmpty_eq_false_iff] at hk
  obtain ⟨d, g', hd, k1, hc⟩ := u_pickB 55 hg (by omega) menu hk.1.1 (by omega)
  obtain ⟨v, e, o, o2, c1, c2, c3⟩ := menu_law hd
  refine ⟨v, e, g', c2, ⟨o2, c3⟩, k1, ?_⟩
  obtain ⟨s1, x1, y1⟩ := ss_cut (menu_ev (C 58) g)
  obtain ⟨s2, x2, y2⟩ := ss_cut y1
  obtain ⟨s3, x3, y3⟩ := ss_cut y2
  have e3 : s3 = [some g, some (.own (.list menu))] := by
    simp only [evSs] at y3
    injection y3
  subst e3
  obtain ⟨d1, rfl⟩ := hg.own
  obtain ⟨d2, rfl⟩ := k1.own
  have hv : v.noVr = true := by
    cases v with
    | vr i => cases c2
    | _ => rfl
  have ep : evE theG (C 58) (.callk 9 (.cons (.var 0) (.cons (.var 1) .nil)) .nil) [some (.own d1), some (.own (.list menu))] = .ok (.imm d) [some (.own d2), some (.own (.list menu))] :=
    e_callk (es_cons (x := .vr 0) rfl (es_cons (x := .vr 1) rfl rfl)) rfl (call_gB rfl hc rfl)
  have ec : evE theG (C 58) (.callk 7 (.cons (.callk 9 (.cons (.var 0) (.cons (.var 1) .nil)) .nil) .nil) .nil) [some (.own d1), some (.own (.list menu))] = .ok v [some (.own d2), some (.own (.list menu))] :=
    e_callk (es_cons ep rfl) rfl (call_imm (ds := [d]) c1 rfl hv)
  have ea : evSs theG (C 58) b15 [some (.own d1), none] = .ok (.rt v) [some (.own d2), some (.own (.list menu))] := ss_nx x1 (ss_nx x2 (ss_nx x3 (ss_rt (s_rt ec))))
  rw [run_of (G := theG) (F := C 58) (fn := fn15) (as := [.own d1]) rfl ea]
  cases v with
  | vr i => cases c2
  | _ => rfl
end PV

namespace PV
open PySem PySem.Spec PyProof.Rows L2 Builtin.Str
def Jd (d : PyData) : Prop := ∃ o, C 59 20 [.imm d] = .ok (.imm (.bool true)) [.imm o]
theorem x0_step {a0 a1 a2 a3 a4 a5 : Option Slot} {d : PyData} (h : Jd d) : evSs theG (C 59) b21x0 [a0, a1, a2, a3, a4, a5, some (.imm d)] = .ok .nx [a0, a1, a2, a3, a4, a5, some (.imm d)] := by
  obtain ⟨o, h⟩ := h
  exact ss_nx (if_f (t_of (e_nt (e_callk (es_cons (x := .imm d) rfl rfl) rfl (call_imm (ds := [d]) h rfl rfl)) rfl) rfl) ss_end) ss_end
theorem x0_loop {a0 a1 a2 a3 a4 a5 : Option Slot} : ∀ (ds : List PyData) (v : Option Slot), (∀ d ∈ ds, Jd d) → ∃ w, forLoop (bindT (.v 6)) (evSs theG (C 59) b21x0) ds [a0, a1, a2, a3, a4, a5, v] = .ok .nx [a0, a1, a2, a3, a4, a5, w]
  | [], v, _ => ⟨v, rfl⟩
  | d :: ds, v, h => by
    obtain ⟨w, e⟩ := x0_loop (a0 := a0) (a1 := a1) (a2 := a2) (a3 := a3) (a4 := a4) (a5 := a5) ds (some (.imm d)) fun x hx => h x (by simp [hx])
    exact ⟨w, loop_nx rfl (x0_step (h d (by simp))) e⟩
end PV

namespace PV
open PySem PySem.Spec PyProof.Rows L2 Builtin.Str
theorem mapI_id {f : Nat → Option Slot → Option Slot} (h : ∀ i x, f i x = x) : ∀ (s : En) (k : Nat), mapI f k s = s
  | [], _ => rfl
  | x :: r, k => by rw [mapI, h, mapI_id h r]
theorem locks_nil (s : En) : locks s [] = s := mapI_id (fun i x => by cases x with | none => rfl | some y => cases y <;> rfl) s 0
theorem unlocks_nil (s : En) : unlocks s [] = s := mapI_id (fun i x => by cases x with | none => rfl | some y => cases y <;> rfl) s 0
section
variable {G : Cf} {F : CF} {s s1 s2 : En} {b : Ss} {tg : Tg} {it : It} {e : E} {r : Es} {v : Vl} {d : PyData} {ds : List PyData} {vs : List Vl}
/-- a loop over nothing of one's own -/
theorem for_nl {f : Fl} (hi : evI G F it s = .ok (ds, vs) s1) (hv : lokI s1 vs = []) (hl : forLoop (bindT tg) (evSs G F b) ds s1 = .ok f s2) : evS G F (.for tg it b) s = .ok f s2 := by
  have h := for_ok (tg := tg) (b := b) (f := f) (s2 := s2) hi (by rw [hv, locks_nil]; exact hl)
  rw [h, hv, unlocks_nil]
theorem fs_consV (h : evE G F e s = .ok v s1) (hv : vlD v = some d) (h2 : evFs G F r s1 = .ok ds s2) : evFs G F (.cons e r) s = .ok (d :: ds) s2 := by
  cases v with
  | vr i => cases hv
  | imm x => cases hv; simp only [evFs, frz, h, Out.bind_ok, fzv, h2]
  | fresh x => cases hv; simp only [evFs, frz, h, Out.bind_ok, fzv, h2]
theorem fs_consO {i : Nat} (h : evE G F e s = .ok (.vr i) s1) (hi : s1[i]? = some (some (.own d))) (h2 : evFs G F r (s1.set i (some (.imm d))) = .ok ds s2) : evFs G F (.cons e r) s = .ok (d :: ds) s2 := by
  simp only [evFs, frz, h, Out.bind_ok, fzv, hi, h2]
/-- a call that hands one thing of one's own on -/
theorem call_s1 {ms : Nat → List Bool} {f i : Nat} {d1 d2 : PyData} {r : Vl} (hm : ms f = [true]) (hi : s[i]? = some (some (.own d1))) (h : F f [.own d1] = .ok r [.own d2]) (hr : r.noVr = true) : doCall F ms f [.vr i] s = .ok r (s.set i (some (.own d2))) := by
  have e1 : slotsOf s [true] [.vr i] = some [.own d1] := by simp [slotsOf, slotOf, hi]
  have e2 : back [true] [.vr i] [.own d2] s = some (s.set i (some (.own d2))) := by simp [back, hi]
  unfold doCall
  rw [hm, if_pos (by rfl), e1]
  show (match F f [.own d1] with | .ok r outs => _ | .exc x outs => _ | .stuck => _) = _
  rw [h]
  show (match back [true] [.vr i] [.own d2] s with | some s' => if r.noVr = true then Out.ok r s' else .stuck | none => .stuck) = _
  rw [e2]
  show (if r.noVr = true then Out.ok r _ else .stuck) = _
  rw [if_pos hr]
end
section
variable {a0 a1 a2 a4 a5 a6 : Option Slot}
theorem sortI_mem {ns : List Int} {i : Int} : i ∈ sortI ns ↔ i ∈ ns := (sortI_perm ns).mem_iff
/-- nothing, or frozen -/
def Qt (w : Option Slot) : Prop := w = none ∨ ∃ d, w = some (.imm d)
theorem x0_loopQ {a0 a1 a2 a3 a4 a5 : Option Slot} : ∀ (ds : List PyData) (v : Option Slot), Qt v → (∀ d ∈ ds, Jd d) → ∃ w, Qt w ∧ forLoop (bindT (.v 6)) (evSs theG (C 59) b21x0) ds [a0, a1, a2, a3, a4, a5, v] = .ok .nx [a0, a1, a2, a3, a4, a5, w]
  | [], v, q, _ => ⟨v, q, rfl⟩
  | d :: ds, v, _, h => by
    obtain ⟨w, q, e⟩ := x0_loopQ (a0 := a0) (a1 := a1) (a2 := a2) (a3 := a3) (a4 := a4) (a5 := a5) ds (some (.imm d)) (.inr ⟨d, rfl⟩) fun x hx => h x (by simp [hx])
    exact ⟨w, q, loop_nx rfl (x0_step (h d (by simp))) e⟩
/-- one turn -/
theorem x1_step {B : Int} {g : Slot} (hg : Gd B g) (hB : B < 2 ^ 40) (q6 : Qt a6) : ∃ g' b5 b6, Gd (B + 102) g' ∧ Qt b6 ∧ evSs theG (C 59) b21x1 [a0, a1, a2, some g, a4, a5, a6] = .ok .nx [a0, a1, a2, some g', a4, b5, b6] := by
  obtain ⟨ns, g1, n1, n2, k1, c1⟩ := u_numbers 55 hg (by omega)
  obtain ⟨va, ea, g2, v1, v2, k2, c2⟩ := u_any k1 (by omega)
  obtain ⟨z, g3, tz, k3, c3⟩ := u_string 55 k2 (by omega)
  obtain ⟨us, m1, m2, c4⟩ := u_unlike 58 ns (by omega)
  have hva : va.noVr = true := by
    cases va with
    | vr i => cases v1
    | _ => rfl
  obtain ⟨w, qw, hw⟩ := x0_loopQ (a0 := a0) (a1 := a1) (a2 := a2) (a3 := some g3) (a4 := a4) (a5 := some (.imm (.list (ns.map .int)))) [ea, .str z, .list (ns.map .int), .list ((sortI ns).map .int), .list (us.map .int), .tuple (us.map .int)] a6 q6 (fun d hd => by
    have hu : ∀ i ∈ us, Sm i := fun i hi => n1 i (m1 i hi)
    have hs : ∀ i ∈ sortI ns, Sm i := fun i hi => n1 i (sortI_mem.mp hi)
    have hl := (sortI_perm ns).length_eq
    simp only [List.mem_cons, List.not_mem_nil, or_false] at hd
    rcases hd with rfl | rfl | rfl | rfl | rfl | rfl
    · exact v2
    · exact ⟨_, judged_str 54 z tz⟩
    · exact ⟨_, judged_ints 54 n1 (by omega)⟩
    · exact ⟨_, judged_ints 54 hs (by omega)⟩
    · exact ⟨_, judged_ints 54 hu (by omega)⟩
    · exact ⟨_, judged_tuple 54 hu (by omega)⟩)
  refine ⟨g3, some (.imm (.list (ns.map .int))), w, k3.mono (by omega), qw, ?_⟩
  obtain ⟨d0, rfl⟩ := hg.own
  obtain ⟨d1, rfl⟩ := k1.own
  obtain ⟨d2, rfl⟩ := k2.own
  obtain ⟨d3, rfl⟩ := k3.own
  have e1 : evE theG (C 59) (.callk 22 (.cons (.var 3) .nil) .nil) [a0, a1, a2, some (.own d0), a4, a5, a6] = .ok (.fresh (.list (ns.map .int))) [a0, a1, a2, some (.own d1), a4, a5, a6] :=
    e_callk (es_cons (x := .vr 3) rfl rfl) rfl (call_s1 (i := 3) rfl rfl c1 rfl)
  have e2 : evE theG (C 59) (.callk 19 (.cons (.var 3) .nil) .nil) [a0, a1, a2, some (.own d1), a4, some (.own (.list (ns.map .int))), a6] = .ok va [a0, a1, a2, some (.own d2), a4, some (.own (.list (ns.map .int))), a6] :=
    e_callk (es_cons (x := .vr 3) rfl rfl) rfl (call_s1 (i := 3) rfl rfl c2 hva)
  have e3 : evE theG (C 59) (.callk 20 (.cons (.var 3) .nil) .nil) [a0, a1, a2, some (.own d2), a4, some (.own (.list (ns.map .int))), a6] = .ok (.imm (.str z)) [a0, a1, a2, some (.own d3), a4, some (.own (.list (ns.map .int))), a6] :=
    e_callk (es_cons (x := .vr 3) rfl rfl) rfl (call_s1 (i := 3) rfl rfl c3 rfl)
  have e4 : evE theG (C 59) (.bi .sorted (.cons (.var 5) .nil)) [a0, a1, a2, some (.own d3), a4, some (.imm (.list (ns.map .int))), a6] = .ok (.fresh (.list ((sortI ns).map .int))) [a0, a1, a2, some (.own d3), a4, some (.imm (.list (ns.map .int))), a6] :=
    e_bi (es_cons (x := .imm (.list (ns.map .int))) rfl rfl) rfl (sorted_ints ns)
  have e5 : evE theG (C 59) (.callk 21 (.cons (.var 5) .nil) .nil) [a0, a1, a2, some (.own d3), a4, some (.imm (.list (ns.map .int))), a6] = .ok (.fresh (.list (us.map .int))) [a0, a1, a2, some (.own d3), a4, some (.imm (.list (ns.map .int))), a6] :=
    e_callk (es_cons (x := .imm (.list (ns.map .int))) rfl rfl) rfl (call_imm (ds := [.list (ns.map .int)]) c4 rfl rfl)
  have e6 : evE theG (C 59) (.bi .tuple (.cons (.callk 21 (.cons (.var 5) .nil) .nil) .nil)) [a0, a1, a2, some (.own d3), a4, some (.imm (.list (ns.map .int))), a6] = .ok (.imm (.tuple (us.map .int))) [a0, a1, a2, some (.own d3), a4, some (.imm (.list (ns.map .int))), a6] :=
    e_bi (es_cons e5 rfl) rfl rfl
  refine ss_nx (s_asgF (i := 5) e1) (ss_nx (for_nl (i_seqL (e_lst (fs_consV e2 v1 (fs_cons e3 (fs_consO (i := 5) (d := .list (ns.map .int)) rfl rfl (fs_consV e4 rfl (fs_consV e5 rfl (fs_cons e6 rfl))))))) rfl) rfl hw) ss_end)
theorem x1_loop : ∀ (ds : List PyData) (B : Int) (g : Slot) (a4 a5 a6 : Option Slot), Gd B g → B + 102 * ds.length < 2 ^ 40 → Qt a6 → ∃ g' b4 b5 b6, Gd (B + 102 * ds.length) g' ∧ Qt b6 ∧ forLoop (bindT (.v 4)) (evSs theG (C 59) b21x1) ds [a0, a1, a2, some g, a4, a5, a6] = .ok .nx [a0, a1, a2, some g', b4, b5, b6]
  | [], B, g, a4, a5, a6, hg, _, q => ⟨g, a4, a5, a6, hg.mono (by simp), q, rfl⟩
  | d :: ds, B, g, a4, a5, a6, hg, hB, q => by
    rw [List.length_cons] at hB
    obtain ⟨g1, b5, b6, k1, q1, e1⟩ := x1_step (a0 := a0) (a1 := a1) (a2 := a2) (a4 := some (.imm d)) (a5 := a5) (a6 := a6) hg (by omega) q
    obtain ⟨g2, c4, c5, c6, k2, q2, e2⟩ := x1_loop ds (B + 102) g1 (some (.imm d)) b5 b6 k1 (by omega) q1
    exact ⟨g2, c4, c5, c6, k2.mono (by rw [List.length_cons]; omega), q2, loop_nx rfl e1 e2⟩
/-- one seed -/
theorem x2_step (ns : List Int) (i : Nat) (hi : i < 1000) (a3 : Option Slot) (q : Qt a6) : ∃ b3 b4 b5 b6, Qt b6 ∧ evSs theG (C 59) b21x2 [some (.imm (.list (ns.map .int))), some (.imm (.int i)), a2, a3, a4, a5, a6] = .ok .nx [some (.imm (.list (ns.map .int))), some (.imm (.int i)), a2, b3, b4, b5, b6] := by
  obtain ⟨x, y, hx, c⟩ := t_gen 57 ns i
  obtain ⟨g', b4, b5, b6, _, q6, e⟩ := x1_loop (a0 := some (.imm (.list (ns.map .int)))) (a1 := some (.imm (.int i))) (a2 := a2) (rangeD 0 12) (1000 * i) (gsl x y (1000 * i)) a4 a5 a6 ⟨x, y, 1000 * i, rfl, hx, by omega, by omega⟩ (by
    have : (rangeD 0 12).length = 12 := rfl
    omega) q
  have e1 : evE theG (C 59) (.callk 23 (.cons (.var 0) (.cons (.var 1) .nil)) .nil) [some (.imm (.list (ns.map .int))), some (.imm (.int i)), a2, a3, a4, a5, a6] = .ok (.fresh (.list [.int x, .int y, .int (1000 * i)])) [some (.imm (.list (ns.map .int))), some (.imm (.int i)), a2, a3, a4, a5, a6] :=
    e_callk (es_cons (x := .imm (.list (ns.map .int))) rfl (es_cons (x := .imm (.int i)) rfl rfl)) rfl (call_imm (ds := [.list (ns.map .int), .int i]) c rfl rfl)
  exact ⟨_, _, _, _, q6, ss_nx (s_asgF (i := 3) e1) (ss_nx (for_nl (i_rng1 (n := 12) rfl (by decide)) rfl e) ss_end)⟩
end
/-- the last list -/
def duesE : E := match b21 with
  | .cons _ (.cons (.asg _ (.lc _ _ (.seq e) _ _)) _) => e
  | _ => .cn .none
def dues : List PyData := match evE theG (C 0) duesE [] with
  | .ok (.fresh (.list ds)) _ => ds
  | _ => []
theorem dues_ev (F : CF) (s : En) : evE theG F duesE s = .ok (.fresh (.list dues)) s := by kernel_rfl
def chkJ (d : PyData) : Bool := match C 59 20 [.imm d] with
  | .ok (.imm (.bool true)) o => slD o
  | _ => false
theorem dues_ok : (dues.all chkJ && decide (dues.length = 18)) = true := by decide +kernel
theorem chkJ_law {d : PyData} (h : chkJ d = true) : Jd d := by
  unfold chkJ at h
  split at h
  · rename_i o e
    match o, h with
    | [.imm x], _ => exact ⟨x, e⟩
  · cases h
end PV

namespace PV
open PySem PySem.Spec PyProof.Rows L2 Builtin.Str
theorem filter_tt {α : Type} (l : List α) : l.filter (fun _ => true) = l := List.filter_eq_self.mpr fun _ _ => rfl
theorem nin_tt : opCmp .nin (.bool false) (.list (dues.map fun _ => .bool true)) = some true := by decide +kernel
theorem law_ok (ns : List Int) (h : ns.length ≤ 63) : ∃ outs, callN theG tbl 60 (theG.shapes 24).f [.imm (.list (ns.map .int))] = .ok (.imm (.bool true)) outs := by
  rw [sh24]
  show ∃ outs, C (59 + 1) 21 [.imm (.list (ns.map .int))] = _
  rw [C_succ 59 21 _ fn21 rfl]
  let sc : Option Slot := some (.imm (.list (ns.map .int)))
  obtain ⟨b3, b4, b5, b6, q1, e1⟩ := x2_step (a2 := none) (a4 := none) (a5 := none) (a6 := none) ns 0 (by omega) none (.inl rfl)
  obtain ⟨c3, c4, c5, c6, q2, e2⟩ := x2_step (a2 := none) (a4 := b4) (a5 := b5) (a6 := b6) ns 1 (by omega) b3 q1
  obtain ⟨d3, d4, d5, d6, q3, e3⟩ := x2_step (a2 := none) (a4 := c4) (a5 := c5) (a6 := c6) ns 2 (by omega) c3 q2
  have ef : evS theG (C 59) (.for (.v 1) (.rng1 (.cn (.int 3))) b21x2) [sc, none, none, none, none, none, none] = .ok .nx [sc, some (.imm (.int 2)), none, d3, d4, d5, d6] :=
    for_nl (i_rng1 (n := 3) rfl (by decide)) rfl (loop_nx rfl e1 (loop_nx rfl e2 (loop_nx rfl e3 loop_nil)))
  have hk := dues_ok
  rw [Bool.and_eq_true, List.all_eq_true] at hk
  have el : evE theG (C 59) (.lc (.callk 18 (.cons (.var 6) .nil) .nil) (.v 6) (.seq duesE) .no [6]) [sc, some (.imm (.int 2)), none, d3, d4, d5, d6] = .ok (.fresh (.list ((dues.filter fun _ => true).map fun _ => .bool true))) [sc, some (.imm (.int 2)), none, d3, d4, d5, d6] := by
    refine e_lc (i_seqL (dues_ev (C 59) _) rfl) ?_ rfl (locks_nil _) (unlocks_nil _) (fun x hx => rfl) (fun x hx _ => ?_) (fun x => rfl)
    · rcases q3 with rfl | ⟨d, rfl⟩ <;> rfl
    · obtain ⟨o, hj⟩ := chkJ_law (hk.1 x hx)
      show frz _ [sc, some (.imm (.int 2)), none, d3, d4, d5, some (.imm x)] = _
      unfold frz
      rw [e_callk (es_cons (x := .imm x) rfl rfl) rfl (call_imm (ds := [x]) hj rfl rfl)]
      rfl
  rw [filter_tt] at el
  have er : evE theG (C 59) (.cmp .nin (.cn (.bool false)) (.var 2)) [sc, some (.imm (.int 2)), some (.own (.list (dues.map fun _ => .bool true))), d3, d4, d5, d6] = .ok (.imm (.bool true)) [sc, some (.imm (.int 2)), some (.own (.list (dues.map fun _ => .bool true))), d3, d4, d5, d6] :=
    e_cmp (x := .imm (.bool false)) (y := .vr 2) rfl rfl rfl rfl nin_tt
  have e : evSs theG (C 59) b21 [sc, none, none, none, none, none, none] = .ok (.rt (.imm (.bool true))) [sc, some (.imm (.int 2)), some (.own (.list (dues.map fun _ => .bool true))), d3, d4, d5, d6] :=
    ss_nx ef (ss_nx (s_asgF (i := 2) el) (ss_rt (s_rt er)))
  refine ⟨[.imm (.list (ns.map .int))], ?_⟩
  rw [run_of (G := theG) (F := C 59) (fn := fn21) (as := [.imm (.list (ns.map .int))]) rfl e]
  rfl
end PV

namespace PV
open PySem PySem.Spec PyProof.Rows L2
abbrev Rw : PySem.W.OpenRow := PySem.W.OpenLaw.row PySem.Challenge.rw_waysround_k01_names_days_and_lots
abbrev theH : PySem.W.Hook := hookS 4 fas dfs
def obT (s : PySem.W.SharedT) : AlS := obsS 4 fas dfs (HandSHeadRun.getT s)
theorem obT_eq (s : PySem.W.SharedT) : obT s = theH.obs s.abs := obsS_eq (HandSHeadRun.getT_eq s)
theorem runT (w : World) : HandSHeadRun.RunEq Rw (PySem.W.view Rw.prog [26]) theH obT 3000 lo w := by
  intro os
  kernel_rfl
end PV
open PySem PySem.W PySem.Calls PyProof.Rows
theorem PySem.Challenge.cw_waysround_k01_names_days_and_lots_holds : PySem.Challenge.rw_waysround_k01_names_days_and_lots.Holds := by
  w_on; o_law
  refine HandSHeadRun.head_any (r := PV.Rw) (q := view PV.Rw.prog [26]) (H := PV.theH) (ob := PV.obT) (M := 3000) (loose := PV.lo) (d := HandSHeadRun.topDef PV.Rw.prog 26) (kwd := []) PV.obT_eq
    (by kernel_rfl) (fun s => by kernel_rfl) PV.runT (by kernel_rfl) (by kernel_rfl) (by kernel_rfl) (by rfl) (by first | assumption | decide +kernel) (by decide +kernel) ⟨rfl, rfl, rfl, rfl, rfl, by decide +kernel⟩ ?hw ?hc
  case hw => w_witness2
  case hc =>
    exact PV.walk_law (l := PySem.Challenge.rw_waysround_k01_names_days_and_lots) (k := 24) (n := 63) 60 rfl (by decide) (by kernel_rfl) ⟨rfl, by decide, by decide⟩ (by kernel_rfl) PV.defs PV.modg rfl rfl PV.law_ok

