import PyProof.Rows.All
import Wide.All
import OpenK.AllK
import Wide.FinOn
import HandS.ForMost
import HandS.Exc
import HandS.ExcOwn
import HandS.Wide
import HandS.StrMore
import HandS.Deep
import HandS.IsInst
import HandS.Walk
import PyProof.NeKinds
import HandS.WideBits
import HandS.Style
import HandS.Flow
import HandS.More
import PyProof.Rows.StrCut
import HandS.WordsExc
import HandS.CallSlots
import HandS.EndBits
import PyProof.ExcBaseAll.ValueError
import KE.RegMulBits
import PySem.Challenge.RW_replythread_k01_whole_bare
set_option Elab.async false
set_option linter.all false
set_option maxRecDepth 100000
set_option maxHeartbeats 4000000
/-! PV1: pure data, how it lies in an abstract heap, what keeps it there. -/
namespace PV
open PySem PySem.Spec PyProof.Rows L2

abbrev Tx := List Nat
def mkS (x : Tx) : Str := ⟨x.toArray⟩
theorem mkS_cps (x : Tx) : (mkS x).cps.toList = x := rfl
theorem mkS_inj {x y : Tx} (h : mkS x = mkS y) : x = y := by
  have := congrArg (fun s : Str => s.cps.toList) h
  exact this
theorem mkS_tl (s : Str) : mkS s.cps.toList = s := by
  cases s
  rfl
theorem mkS_len (x : Tx) : (mkS x).length = x.length := by
  show x.toArray.size = x.length
  simp

inductive Dat where
  | non | bl (b : Bool) | int (i : Int) | str (x : Tx)
  | tup (xs : List Dat) | lst (xs : List Dat)
  /-- a list that is read alone: the script -/
  | rol (xs : List Dat)
  | dic (ks : List Tx) (vs : List Dat)
  | ins (c : Tx) (ks : List Tx) (vs : List Dat)
  | fn (n : Tx)
  deriving Inhabited

/-- the module: what the top has written, its names -/
structure Glo where
  K : PySem.W.Frag
  mg : Str → Option Value
abbrev glo (X : Cx) : Glo := ⟨X.K, X.mg⟩

def kvOf : List Tx → List V → List (Key × V)
  | k :: ks, v :: vs => (Sum.inr (mkS k), v) :: kvOf ks vs
  | _, _ => []
def fsOf : List Tx → List V → List (Str × V)
  | k :: ks, v :: vs => (mkS k, v) :: fsOf ks vs
  | _, _ => []
theorem kvOf_len : ∀ {ks : List Tx} {vs : List V}, ks.length = vs.length → (kvOf ks vs).length = ks.length
  | [], [], _ => rfl
  | [], _ :: _, h => by simp at h
  | _ :: _, [], h => by simp at h
  | k :: ks, v :: vs, h => by
    show (kvOf ks vs).length + 1 = ks.length + 1
    rw [kvOf_len (by simpa using h)]

def RoL (K : PySem.W.Frag) (H : Hp) (a : Addr) (xs : List V) : Prop :=
  (∃ ob, H a = some (.frz ob (.lst xs))) ∨ ∃ (o : Obj) (its : Array Value) (n : Nat), K.lookup a = some o ∧ o.cls = .type "list" ∧ o.dict = none ∧ o.data = .seq its n ∧ its.size ≤ sizeLine ∧ Vals xs its.toList

mutual
/-- v stands for d in H; fp: the addresses of what may be written in it, each as often as it is met -/
def Rep (G : Glo) (H : Hp) : Dat → V → List Addr → Prop
  | .non, v, fp => v = .non ∧ fp = []
  | .bl b, v, fp => v = .bl b ∧ fp = []
  | .int i, v, fp => v = .int i ∧ fp = []
  | .str x, v, fp => v = .str (mkS x) ∧ fp = []
  | .tup xs, v, fp => ∃ a vs, v = .ref a ∧ SqT G.K H a vs ∧ RepL G H xs vs fp
  | .lst xs, v, fp => ∃ a vs f, v = .ref a ∧ H a = some (.lst vs) ∧ RepL G H xs vs f ∧ fp = a :: f
  | .rol xs, v, fp => ∃ a vs, v = .ref a ∧ RoL G.K H a vs ∧ RepL G H xs vs fp
  | .dic ks ds, v, fp => ∃ a vs f, v = .ref a ∧ Rd H a (.dK (kvOf ks vs)) ∧ ks.length = vs.length ∧ RepL G H ds vs f ∧ fp = a :: f
  | .ins c ks ds, v, fp => ∃ a C dx vs f, v = .ref a ∧ G.mg (mkS c) = some (.ref C) ∧ H a = some (.ins C dx (fsOf ks vs)) ∧ ks.length = vs.length ∧ RepL G H ds vs f ∧ fp = a :: f
  | .fn n, v, fp => ∃ a, v = .ref a ∧ G.mg (mkS n) = some (.ref a) ∧ fp = []
def RepL (G : Glo) (H : Hp) : List Dat → List V → List Addr → Prop
  | [], vs, fp => vs = [] ∧ fp = []
  | d :: ds, vs, fp => ∃ v vs' f f', vs = v :: vs' ∧ fp = f ++ f' ∧ Rep G H d v f ∧ RepL G H ds vs' f'
end

/-- what may be written -/
def wrO : HO → Bool
  | .lst _ => true
  | .dK _ => true
  | .ins _ _ _ => true
  | _ => false
def Wr (H : Hp) (a : Addr) : Prop := ∃ o, H a = some o ∧ wrO o = true
theorem Wr.mut {H : Hp} {a : Addr} (h : Wr H a) : Mut (H a) := by
  obtain ⟨o, e, w⟩ := h
  rw [e]
  cases o <;> first | trivial | cases w
theorem Wr.dic {H : Hp} {a : Addr} {kvs : List (Key × V)} (h : Wr H a) (r : Rd H a (.dK kvs)) : H a = some (.dK kvs) := by
  rcases r with r | ⟨o, r⟩
  · exact r
  · obtain ⟨u, e, w⟩ := h
    rw [r] at e
    cases e
    cases w

/-- all but what stands at W is kept for reading -/
structure Kp (W : List Addr) (H H' : Hp) : Prop where
  lst : ∀ b xs, b ∉ W → H b = some (.lst xs) → H' b = some (.lst xs)
  dic : ∀ b kvs, b ∉ W → Rd H b (.dK kvs) → Rd H' b (.dK kvs)
  frl : ∀ b xs, (∃ o, H b = some (.frz o (.lst xs))) → ∃ o, H' b = some (.frz o (.lst xs))
  ins : ∀ b C dx fs, b ∉ W → H b = some (.ins C dx fs) → H' b = some (.ins C dx fs)
  tup : ∀ b xs, Rd H b (.tup xs) → Rd H' b (.tup xs)
theorem Kp.same {H H' : Hp} (s : Same H H') : Kp [] H H' := by
  refine ⟨fun b xs _ e => s _ _ e, fun b u _ r => ?_, fun b xs ⟨o, e⟩ => ⟨o, s _ _ e⟩, fun b C dx fs _ e => s _ _ e, fun b xs r => ?_⟩
  · rcases r with r | ⟨o, r⟩
    · exact .inl (s _ _ r)
    · exact .inr ⟨o, s _ _ r⟩
  · rcases r with r | ⟨o, r⟩
    · exact .inl (s _ _ r)
    · exact .inr ⟨o, s _ _ r⟩
theorem Kp.upd {H : Hp} {a : Addr} {o : HO} (w : Wr H a) : Kp [a] H (upd H a o) := by
  have nw : ∀ b u, H b = some u → wrO u = false → b ≠ a := fun b u e wo z => by
    subst z
    obtain ⟨u', e', w'⟩ := w
    rw [e] at e'
    cases e'
    rw [wo] at w'
    cases w'
  refine ⟨fun b xs n e => ?_, fun b u n r => ?_, fun b xs ⟨ob, e⟩ => ⟨ob, ?_⟩, fun b C dx fs n e => ?_, fun b xs r => ?_⟩
  · have nb : b ≠ a := fun z => n (by simp [z])
    rw [upd_ne nb]
    exact e
  · have nb : b ≠ a := fun z => n (by simp [z])
    unfold Rd
    rw [upd_ne nb]
    exact r
  · rw [upd_ne (nw b _ e rfl)]
    exact e
  · have nb : b ≠ a := fun z => n (by simp [z])
    rw [upd_ne nb]
    exact e
  · have nb : b ≠ a := by
      rcases r with r | ⟨ob, r⟩
      · exact nw b _ r rfl
      · exact nw b _ r rfl
    unfold Rd
    rw [upd_ne nb]
    exact r
theorem Kp.trans {W : List Addr} {H H1 H2 : Hp} (a : Kp W H H1) (b : Kp W H1 H2) : Kp W H H2 :=
  ⟨fun c xs n r => b.lst c xs n (a.lst c xs n r), fun c u n r => b.dic c u n (a.dic c u n r), fun c xs r => b.frl c xs (a.frl c xs r), fun c C dx fs n e => b.ins c C dx fs n (a.ins c C dx fs n e), fun c xs r => b.tup c xs (a.tup c xs r)⟩
theorem Kp.mono {W W' : List Addr} {H H1 : Hp} (a : Kp W H H1) (h : ∀ b ∈ W, b ∈ W') : Kp W' H H1 :=
  ⟨fun c xs n r => a.lst c xs (fun z => n (h c z)) r, fun c u n r => a.dic c u (fun z => n (h c z)) r, a.frl, fun c C dx fs n e => a.ins c C dx fs (fun z => n (h c z)) e, a.tup⟩

mutual
theorem Rep.kp {G : Glo} {H H' : Hp} {W : List Addr} (k : Kp W H H') : ∀ (d : Dat) (v : V) (fp : List Addr), Rep G H d v fp → (∀ a ∈ fp, a ∉ W) → Rep G H' d v fp
  | .non, _, _, h, _ => by simpa only [Rep] using h
  | .bl _, _, _, h, _ => by simpa only [Rep] using h
  | .int _, _, _, h, _ => by simpa only [Rep] using h
  | .str _, _, _, h, _ => by simpa only [Rep] using h
  | .fn _, _, _, h, _ => by simpa only [Rep] using h
  | .tup xs, v, fp, h, n => by
    simp only [Rep] at h ⊢
    obtain ⟨a, vs, e, q, r⟩ := h
    refine ⟨a, vs, e, ?_, RepL.kp k xs vs fp r n⟩
    rcases q with q | q
    · exact .inl (k.tup a vs q)
    · exact .inr q
  | .lst xs, v, fp, h, n => by
    simp only [Rep] at h ⊢
    obtain ⟨a, vs, f, e, q, r, ef⟩ := h
    subst ef
    exact ⟨a, vs, f, e, k.lst a _ (n a (by simp)) q, RepL.kp k xs vs f r fun b hb => n b (by simp [hb]), rfl⟩
  | .rol xs, v, fp, h, n => by
    simp only [Rep] at h ⊢
    obtain ⟨a, vs, e, q, r⟩ := h
    refine ⟨a, vs, e, ?_, RepL.kp k xs vs fp r n⟩
    rcases q with q | q
    · exact .inl (k.frl a vs q)
    · exact .inr q
  | .dic ks ds, v, fp, h, n => by
    simp only [Rep] at h ⊢
    obtain ⟨a, vs, f, e, q, l, r, ef⟩ := h
    subst ef
    exact ⟨a, vs, f, e, k.dic a _ (n a (by simp)) q, l, RepL.kp k ds vs f r fun b hb => n b (by simp [hb]), rfl⟩
  | .ins c ks ds, v, fp, h, n => by
    simp only [Rep] at h ⊢
    obtain ⟨a, C, dx, vs, f, e, m, q, l, r, ef⟩ := h
    subst ef
    exact ⟨a, C, dx, vs, f, e, m, k.ins a _ _ _ (n a (by simp)) q, l, RepL.kp k ds vs f r fun b hb => n b (by simp [hb]), rfl⟩
theorem RepL.kp {G : Glo} {H H' : Hp} {W : List Addr} (k : Kp W H H') : ∀ (ds : List Dat) (vs : List V) (fp : List Addr), RepL G H ds vs fp → (∀ a ∈ fp, a ∉ W) → RepL G H' ds vs fp
  | [], _, _, h, _ => by simpa only [RepL] using h
  | d :: ds, vs, fp, h, n => by
    simp only [RepL] at h ⊢
    obtain ⟨v, vs', f, f', e1, e2, r, rr⟩ := h
    subst e2
    exact ⟨v, vs', f, f', e1, rfl, Rep.kp k d v f r fun b hb => n b (by simp [hb]), RepL.kp k ds vs' f' rr fun b hb => n b (by simp [hb])⟩
end
theorem Rep.same {G : Glo} {H H' : Hp} (s : Same H H') {d : Dat} {v : V} {fp : List Addr} (h : Rep G H d v fp) : Rep G H' d v fp := Rep.kp (Kp.same s) d v fp h fun _ _ => by simp
theorem RepL.same {G : Glo} {H H' : Hp} (s : Same H H') {d : List Dat} {v : List V} {fp : List Addr} (h : RepL G H d v fp) : RepL G H' d v fp := RepL.kp (Kp.same s) d v fp h fun _ _ => by simp

mutual
/-- what may be written is tracked -/
theorem Rep.trk {G : Glo} {H : Hp} : ∀ (d : Dat) (v : V) (fp : List Addr), Rep G H d v fp → ∀ a ∈ fp, H a ≠ none
  | .non, _, _, h => by
    simp only [Rep] at h
    simp [h.2]
  | .bl _, _, _, h => by
    simp only [Rep] at h
    simp [h.2]
  | .int _, _, _, h => by
    simp only [Rep] at h
    simp [h.2]
  | .str _, _, _, h => by
    simp only [Rep] at h
    simp [h.2]
  | .fn _, _, _, h => by
    simp only [Rep] at h
    obtain ⟨_, _, _, e⟩ := h
    simp [e]
  | .tup xs, v, fp, h => by
    simp only [Rep] at h
    obtain ⟨a, vs, e, q, r⟩ := h
    exact RepL.trk xs vs fp r
  | .lst xs, v, fp, h => by
    simp only [Rep] at h
    obtain ⟨a, vs, f, e, q, r, ef⟩ := h
    subst ef
    intro b hb
    rcases List.mem_cons.mp hb with z | z
    · subst z
      simp [q]
    · exact RepL.trk xs vs f r b z
  | .rol xs, v, fp, h => by
    simp only [Rep] at h
    obtain ⟨a, vs, e, q, r⟩ := h
    exact RepL.trk xs vs fp r
  | .dic ks ds, v, fp, h => by
    simp only [Rep] at h
    obtain ⟨a, vs, f, e, q, l, r, ef⟩ := h
    subst ef
    intro b hb
    rcases List.mem_cons.mp hb with z | z
    · subst z
      rcases q with q | ⟨o, q⟩ <;> simp [q]
    · exact RepL.trk ds vs f r b z
  | .ins c ks ds, v, fp, h => by
    simp only [Rep] at h
    obtain ⟨a, C, dx, vs, f, e, m, q, l, r, ef⟩ := h
    subst ef
    intro b hb
    rcases List.mem_cons.mp hb with z | z
    · subst z
      simp [q]
    · exact RepL.trk ds vs f r b z
theorem RepL.trk {G : Glo} {H : Hp} : ∀ (ds : List Dat) (vs : List V) (fp : List Addr), RepL G H ds vs fp → ∀ a ∈ fp, H a ≠ none
  | [], _, _, h => by
    simp only [RepL] at h
    simp [h.2]
  | d :: ds, vs, fp, h => by
    simp only [RepL] at h
    obtain ⟨v, vs', f, f', e1, e2, r, rr⟩ := h
    subst e2
    intro b hb
    rcases List.mem_append.mp hb with z | z
    · exact Rep.trk d v f r b z
    · exact RepL.trk ds vs' f' rr b z
end

mutual
/-- nothing in it may be written -/
def flat : Dat → Bool
  | .lst _ => false
  | .dic _ _ => false
  | .ins _ _ _ => false
  | .tup xs => flatL xs
  | .rol xs => flatL xs
  | _ => true
def flatL : List Dat → Bool
  | [] => true
  | d :: ds => flat d && flatL ds
end
theorem flatL_all : ∀ ds : List Dat, flatL ds = ds.all flat
  | [] => rfl
  | d :: ds => by
    simp only [flatL, List.all_cons, flatL_all ds]
mutual
theorem Rep.flat {G : Glo} {H : Hp} : ∀ (d : Dat) (v : V) (fp : List Addr), Rep G H d v fp → flat d = true → fp = []
  | .non, _, _, h, _ => by
    simp only [Rep] at h
    exact h.2
  | .bl _, _, _, h, _ => by
    simp only [Rep] at h
    exact h.2
  | .int _, _, _, h, _ => by
    simp only [Rep] at h
    exact h.2
  | .str _, _, _, h, _ => by
    simp only [Rep] at h
    exact h.2
  | .fn _, _, _, h, _ => by
    simp only [Rep] at h
    obtain ⟨_, _, _, e⟩ := h
    exact e
  | .tup xs, v, fp, h, n => by
    simp only [Rep] at h
    obtain ⟨a, vs, e, q, r⟩ := h
    exact RepL.flat xs vs fp r (by simpa only [PV.flat] using n)
  | .rol xs, v, fp, h, n => by
    simp only [Rep] at h
    obtain ⟨a, vs, e, q, r⟩ := h
    exact RepL.flat xs vs fp r (by simpa only [PV.flat] using n)
  | .lst _, _, _, _, n => by simp [PV.flat] at n
  | .dic _ _, _, _, _, n => by simp [PV.flat] at n
  | .ins _ _ _, _, _, _, n => by simp [PV.flat] at n
theorem RepL.flat {G : Glo} {H : Hp} : ∀ (ds : List Dat) (vs : List V) (fp : List Addr), RepL G H ds vs fp → flatL ds = true → fp = []
  | [], _, _, h, _ => by
    simp only [RepL] at h
    exact h.2
  | d :: ds, vs, fp, h, n => by
    simp only [RepL] at h
    simp only [flatL, Bool.and_eq_true] at n
    obtain ⟨v, vs', f, f', e1, e2, r, rr⟩ := h
    subst e2
    rw [Rep.flat d v f r n.1, RepL.flat ds vs' f' rr n.2]
    rfl
end

/-! ### lists of data -/
theorem RepL.len {G : Glo} {H : Hp} : ∀ {ds : List Dat} {vs : List V} {fp : List Addr}, RepL G H ds vs fp → vs.length = ds.length
  | [], _, _, h => by
    simp only [RepL] at h
    simp [h.1]
  | d :: ds, vs, fp, h => by
    simp only [RepL] at h
    obtain ⟨v, vs', f, f', e1, e2, r, rr⟩ := h
    subst e1
    simp [RepL.len rr]
theorem RepL.nil {G : Glo} {H : Hp} : RepL G H [] [] [] := by simp [RepL]
theorem RepL.cons {G : Glo} {H : Hp} {d : Dat} {ds : List Dat} {v : V} {vs : List V} {f f' : List Addr} (h : Rep G H d v f) (r : RepL G H ds vs f') : RepL G H (d :: ds) (v :: vs) (f ++ f') := by
  simp only [RepL]
  exact ⟨v, vs, f, f', rfl, rfl, h, r⟩
theorem RepL.one {G : Glo} {H : Hp} {d : Dat} {v : V} {f : List Addr} (h : Rep G H d v f) : RepL G H [d] [v] f := by
  have := RepL.cons h (RepL.nil (G := G) (H := H))
  simpa using this
theorem RepL.app {G : Glo} {H : Hp} : ∀ {ds es : List Dat} {vs us : List V} {f g : List Addr}, RepL G H ds vs f → RepL G H es us g → RepL G H (ds ++ es) (vs ++ us) (f ++ g)
  | [], es, _, us, _, g, h, r => by
    simp only [RepL] at h
    rw [h.1, h.2]
    exact r
  | d :: ds, es, _, us, _, g, h, r => by
    simp only [RepL] at h
    obtain ⟨v, vs', f, f', e1, e2, rd, rr⟩ := h
    subst e1
    subst e2
    rw [List.append_assoc]
    exact RepL.cons rd (RepL.app rr r)
/-- cut in two -/
theorem RepL.cut {G : Glo} {H : Hp} : ∀ {ds es : List Dat} {vs : List V} {fp : List Addr}, RepL G H (ds ++ es) vs fp → ∃ us ws f g, vs = us ++ ws ∧ fp = f ++ g ∧ RepL G H ds us f ∧ RepL G H es ws g
  | [], es, vs, fp, h => ⟨[], vs, [], fp, rfl, rfl, RepL.nil, h⟩
  | d :: ds, es, vs, fp, h => by
    have h' : RepL G H (d :: (ds ++ es)) vs fp := h
    simp only [RepL] at h'
    obtain ⟨v, vs', f, f', e1, e2, rd, rr⟩ := h'
    obtain ⟨us, ws, f1, g1, q1, q2, q3, q4⟩ := RepL.cut rr
    subst e1
    subst e2
    subst q1
    subst q2
    exact ⟨v :: us, ws, f ++ f1, g1, rfl, by simp, RepL.cons rd q3, q4⟩
/-- the i-th -/
theorem RepL.at {G : Glo} {H : Hp} : ∀ {ds : List Dat} {vs : List V} {fp : List Addr} {i : Nat} {d : Dat}, RepL G H ds vs fp → ds[i]? = some d → ∃ v f, vs[i]? = some v ∧ Rep G H d v f ∧ (∀ a ∈ f, a ∈ fp)
  | [], _, _, _, _, _, e => by simp at e
  | d :: ds, _, _, 0, x, h, e => by
    simp only [RepL] at h
    obtain ⟨v, vs', f, f', e1, e2, rd, rr⟩ := h
    subst e1
    subst e2
    simp at e
    subst e
    exact ⟨v, f, rfl, rd, fun a ha => by simp [ha]⟩
  | d :: ds, _, _, i + 1, x, h, e => by
    simp only [RepL] at h
    obtain ⟨v, vs', f, f', e1, e2, rd, rr⟩ := h
    subst e1
    subst e2
    obtain ⟨u, g, q1, q2, q3⟩ := RepL.at (i := i) rr (by simpa using e)
    exact ⟨u, g, by simpa using q1, q2, fun a ha => by simp [q3 a ha]⟩
/-- any choice of items -/
theorem RepL.pick {G : Glo} {H : Hp} {ds : List Dat} {vs : List V} {fp : List Addr} (h : RepL G H ds vs fp) : ∀ (ix : List Nat), (∀ i ∈ ix, i < ds.length) →
    ∃ f, RepL G H (ix.filterMap fun i => ds[i]?) (ix.filterMap fun i => vs[i]?) f ∧ ∀ a ∈ f, a ∈ fp
  | [], _ => ⟨[], RepL.nil, fun _ z => by simp at z⟩
  | i :: ix, hi => by
    obtain ⟨f, r, hf⟩ := RepL.pick h ix fun j hj => hi j (by simp [hj])
    have hl : i < ds.length := hi i (by simp)
    have e : ds[i]? = some ds[i] := List.getElem?_eq_getElem hl
    obtain ⟨v, g, q1, q2, q3⟩ := RepL.at h e
    refine ⟨g ++ f, ?_, fun a ha => ?_⟩
    · rw [List.filterMap_cons, List.filterMap_cons, e, q1]
      exact RepL.cons q2 r
    · rcases List.mem_append.mp ha with z | z
      · exact q3 a z
      · exact hf a z
theorem RepL.take {G : Glo} {H : Hp} {ds : List Dat} {vs : List V} {fp : List Addr} (h : RepL G H ds vs fp) (n : Nat) : ∃ f, RepL G H (ds.take n) (vs.take n) f ∧ ∀ a ∈ f, a ∈ fp := by
  have h0 : RepL G H (ds.take n ++ ds.drop n) vs fp := by
    rw [List.take_append_drop]
    exact h
  obtain ⟨us, ws, f, g, e1, e2, r1, r2⟩ := RepL.cut h0
  refine ⟨f, ?_, fun a ha => by simp [e2, ha]⟩
  have l1 := r1.len
  have e3 : vs.take n = us := by
    rw [e1]
    by_cases hn : n ≤ ds.length
    · rw [List.take_append_of_le_length (by rw [l1, List.length_take]; omega), List.take_of_length_le (by rw [l1, List.length_take]; omega)]
    · have : ws = [] := by
        have l2 := r2.len
        rw [List.length_drop] at l2
        exact List.eq_nil_of_length_eq_zero (by omega)
      rw [this, List.append_nil, List.take_of_length_le (by rw [l1, List.length_take]; omega)]
  rw [e3]
  exact r1
theorem RepL.drop {G : Glo} {H : Hp} {ds : List Dat} {vs : List V} {fp : List Addr} (h : RepL G H ds vs fp) (n : Nat) : ∃ f, RepL G H (ds.drop n) (vs.drop n) f ∧ ∀ a ∈ f, a ∈ fp := by
  have h0 : RepL G H (ds.take n ++ ds.drop n) vs fp := by
    rw [List.take_append_drop]
    exact h
  obtain ⟨us, ws, f, g, e1, e2, r1, r2⟩ := RepL.cut h0
  refine ⟨g, ?_, fun a ha => by simp [e2, ha]⟩
  have l1 := r1.len
  have e3 : vs.drop n = ws := by
    rw [e1]
    by_cases hn : n ≤ ds.length
    · rw [List.drop_append_of_le_length (by rw [l1, List.length_take]; omega), List.drop_eq_nil_of_le (by rw [l1, List.length_take]; omega), List.nil_append]
    · have : ws = [] := by
        have l2 := r2.len
        rw [List.length_drop] at l2
        exact List.eq_nil_of_length_eq_zero (by omega)
      rw [this, List.append_nil, List.drop_eq_nil_of_le (by rw [l1, List.length_take]; omega)]
  rw [e3]
  exact r2
theorem RepL.rev {G : Glo} {H : Hp} : ∀ {ds : List Dat} {vs : List V} {fp : List Addr}, RepL G H ds vs fp → ∃ f, RepL G H ds.reverse vs.reverse f ∧ f.Perm fp
  | [], _, _, h => by
    simp only [RepL] at h
    rw [h.1, h.2]
    exact ⟨[], RepL.nil, .nil⟩
  | d :: ds, _, _, h => by
    simp only [RepL] at h
    obtain ⟨v, vs', f, f', e1, e2, rd, rr⟩ := h
    subst e1
    subst e2
    obtain ⟨g, q, p⟩ := RepL.rev rr
    refine ⟨g ++ f, ?_, ?_⟩
    · rw [List.reverse_cons, List.reverse_cons]
      exact RepL.app q (RepL.one rd)
    · exact (List.perm_append_comm).trans (p.append_left f)
end PV

/-! PV2: what syntax does to pure data: the judgements. -/
namespace PV
open PySem PySem.Spec L2

inductive Res (α : Type) where
  | ok (a : α) | exc (c : Tx) | no
def Res.bind {α β : Type} : Res α → (α → Res β) → Res β
  | .ok a, f => f a
  | .exc c, _ => .exc c
  | .no, _ => .no
theorem bind_ok {α β : Type} (a : α) (f : α → Res β) : (Res.ok a).bind f = f a := rfl
theorem bind_exc {α β : Type} (c : Tx) (f : α → Res β) : (Res.exc c : Res α).bind f = .exc c := rfl
theorem bind_no {α β : Type} (f : α → Res β) : (Res.no : Res α).bind f = .no := rfl

/-- what an expression gives: the data; is its root new; from which slots what may be written in it may come; which slots it takes whole, each once, all else new -/
structure Rs where
  d : Dat
  rt : Bool := false
  src : List Nat := []
  mv : Option (List Nat) := none
def rsF (d : Dat) : Rs := ⟨d, false, [], some []⟩

inductive Kd where
  | deep | root | shr
  deriving DecidableEq
abbrev Sto := List (Option (Dat × Kd))
abbrev Fp := Nat → List Addr

def slot (E : Sto) (i : Nat) : Option (Dat × Kd) := match E[i]? with
  | some o => o
  | none => none
theorem slot_some {E : Sto} {i : Nat} {x : Dat × Kd} (h : slot E i = some x) : E[i]? = some (some x) := by
  unfold slot at h
  split at h
  · rename_i o e
    rw [e, h]
  · cases h

/-- the slots' data lie in H -/
structure RepE (G : Glo) (H : Hp) (E : Sto) (σ : St) (F : Fp) : Prop where
  len : E.length = σ.length
  rep : ∀ i d k, slot E i = some (d, k) → ∃ v, σ[i]? = some (some v) ∧ Rep G H d v (F i)
  emp : ∀ i, slot E i = none → F i = []
theorem RepE.kp {G : Glo} {H H' : Hp} {E : Sto} {σ : St} {F : Fp} {W : List Addr} (r : RepE G H E σ F) (k : Kp W H H') (n : ∀ i, ∀ a ∈ F i, a ∉ W) : RepE G H' E σ F :=
  ⟨r.len, fun i d kd e => let ⟨v, h1, h2⟩ := r.rep i d kd e; ⟨v, h1, Rep.kp k d v _ h2 (n i)⟩, r.emp⟩
theorem RepE.same {G : Glo} {H H' : Hp} {E : Sto} {σ : St} {F : Fp} (r : RepE G H E σ F) (s : Same H H') : RepE G H' E σ F := r.kp (Kp.same s) fun _ _ _ => by simp
theorem RepE.trk {G : Glo} {H : Hp} {E : Sto} {σ : St} {F : Fp} (r : RepE G H E σ F) (i : Nat) : ∀ a ∈ F i, H a ≠ none := by
  cases e : slot E i with
  | none =>
    intro a ha
    rw [r.emp i e] at ha
    cases ha
  | some x =>
    obtain ⟨d, k⟩ := x
    obtain ⟨v, _, h⟩ := r.rep i d k e
    exact Rep.trk d v _ h

/-- where what may be written comes from, as told -/
structure Prov (H : Hp) (F : Fp) (r : Rs) (H' : Hp) (fp : List Addr) : Prop where
  src : ∀ a ∈ fp, H a = none ∨ ∃ i ∈ r.src, a ∈ F i
  rt : r.rt = true → ∃ a f, fp = a :: f ∧ H a = none ∧ Wr H' a ∧ a ∉ f
  mv : ∀ m, r.mv = some m → ∃ fr, fp.Perm (fr ++ (m.map F).flatten) ∧ fr.Nodup ∧ ∀ a ∈ fr, H a = none ∧ Wr H' a
structure Gv (G : Glo) (H : Hp) (F : Fp) (r : Rs) (v : V) (H' : Hp) (fp : List Addr) : Prop where
  rep : Rep G H' r.d v fp
  prv : Prov H F r H' fp
theorem Wr.same {H H' : Hp} {a : Addr} (s : Same H H') (w : Wr H a) : Wr H' a := let ⟨o, e, z⟩ := w; ⟨o, s _ _ e, z⟩
theorem Gv.same {G : Glo} {H H1 H2 : Hp} {F : Fp} {r : Rs} {v : V} {fp : List Addr} (g : Gv G H F r v H1 fp) (s : Same H1 H2) : Gv G H F r v H2 fp :=
  ⟨g.rep.same s, g.prv.src, fun e => let ⟨a, f, h1, h2, h3, h4⟩ := g.prv.rt e; ⟨a, f, h1, h2, h3.same s, h4⟩, fun m e => let ⟨fr, h1, h2, h3⟩ := g.prv.mv m e; ⟨fr, h1, h2, fun a ha => ⟨(h3 a ha).1, (h3 a ha).2.same s⟩⟩⟩
theorem Prov.back {H0 H : Hp} {F : Fp} {r : Rs} {H' : Hp} {fp : List Addr} (s : Same H0 H) (p : Prov H F r H' fp) : Prov H0 F r H' fp :=
  ⟨fun a ha => (p.src a ha).imp s.free id, fun e => let ⟨a, f, h1, h2, h3⟩ := p.rt e; ⟨a, f, h1, s.free h2, h3⟩, fun m e => let ⟨fr, h1, h2, h3⟩ := p.mv m e; ⟨fr, h1, h2, fun a ha => ⟨s.free (h3 a ha).1, (h3 a ha).2⟩⟩⟩
theorem Gv.back {G : Glo} {H0 H : Hp} {F : Fp} {r : Rs} {v : V} {H' : Hp} {fp : List Addr} (s : Same H0 H) (g : Gv G H F r v H' fp) : Gv G H0 F r v H' fp := ⟨g.rep, g.prv.back s⟩
/-- what holds nothing that may be written -/
theorem Gv.flat {G : Glo} {H : Hp} {F : Fp} {d : Dat} {v : V} {H' : Hp} (r : Rep G H' d v []) : Gv G H F (rsF d) v H' [] :=
  ⟨r, ⟨(fun _ z => nomatch z), (fun z => nomatch z), fun m e => by
    have : m = [] := by
      injection e with e
      exact e.symm
    subst this
    exact ⟨[], .nil, .nil, (fun _ z => nomatch z)⟩⟩⟩

/-- how an outcome meets what is wanted: H0 the heap ahead of the whole, H now -/
def Out (X : Cx) (W : WX) (H0 H : Hp) (F : Fp) (σ : St) (o : Res Rs) (Q : VK) : Prop := match o with
  | .ok r => ∀ v H' fp, Same H H' → Gv (glo X) H0 F r v H' fp → Q v H'
  | .exc c => ∀ C H', X.mg (mkS c) = some (.ref C) → Same H H' → W (.ref C) none σ H'
  | .no => False
def tEv (X : Cx) (W : WX) (f : Sto → Res Rs) : TE := fun σ H Q => ∃ E F, RepE (glo X) H E σ F ∧ Out X W H H F σ (f E) Q
/-- e, evaluated over pure data, is f -/
structure Ev (X : Cx) (W : WX) (e : Expr) (f : Sto → Res Rs) : Prop where
  pe : PE X e (tEv X W f)
theorem weakE {X : Cx} {e : Expr} {t t' : TE} (p : PE X e t) (w : ∀ σ H Q, t' σ H Q → t σ H Q) : PE X e t' := ⟨fun pins s σ H Q I h => p.run pins s σ H Q I (w σ H Q h)⟩
theorem weakT {X : Cx} {e : Expr} {t t' : TT} (p : PT X e t) (w : ∀ σ H Q, t' σ H Q → t σ H Q) : PT X e t' := ⟨fun pins s σ H Q I h => p.run pins s σ H Q I (w σ H Q h)⟩
theorem weakA {X : Cx} {es : List Expr} {t t' : TA} (p : PA X es t) (w : ∀ σ H Q, t' σ H Q → t σ H Q) : PA X es t' := ⟨fun pos pins s σ H Q I h => p.run pos pins s σ H Q I (w σ H Q h)⟩
theorem weakS {X : Cx} {st : Stmt} {t t' : TS} (p : PS X st t) (w : ∀ D σ H, t' D σ H → t D σ H) : PS X st t' := ⟨fun pins s σ H D I h => p.run pins s σ H D I (w D σ H h)⟩
theorem weakSs {X : Cx} {st : List Stmt} {t t' : TS} (p : PSs X st t) (w : ∀ D σ H, t' D σ H → t D σ H) : PSs X st t' := ⟨fun pins s σ H D I h => p.run pins s σ H D I (w D σ H h)⟩

section
variable {X : Cx} {W : WX}
/-- one after another: the part f now, the rest k behind it -/
theorem seqE {f : Sto → Res Rs} {E : Sto} {F : Fp} {σ : St} {H0 H : Hp} {k : Rs → Res Rs} {Q Q' : VK} (re : RepE (glo X) H E σ F) (s : Same H0 H) (o : Out X W H0 H F σ ((f E).bind k) Q)
    (h : ∀ r v H1 fp, f E = .ok r → Same H H1 → Gv (glo X) H0 F r v H1 fp → Out X W H0 H1 F σ (k r) Q → Q' v H1) : tEv X W f σ H Q' := by
  refine ⟨E, F, re, ?_⟩
  cases e : f E with
  | no =>
    rw [e] at o
    exact o
  | exc c =>
    rw [e] at o
    exact o
  | ok r =>
    intro v H1 fp s1 g
    refine h r v H1 fp e s1 (g.back s) ?_
    rw [e] at o
    show Out X W H0 H1 F σ (k r) Q
    have o : Out X W H0 H F σ (k r) Q := o
    cases e2 : k r with
    | no =>
      rw [e2] at o
      exact o
    | exc c =>
      rw [e2] at o
      exact fun C H' m s2 => o C H' m (s1.trans s2)
    | ok r2 =>
      rw [e2] at o
      exact fun v2 H2 fp2 s2 g2 => o v2 H2 fp2 (s1.trans s2) g2
theorem Out.mono {H0 H H1 : Hp} {F : Fp} {σ : St} {o : Res Rs} {Q : VK} (h : Out X W H0 H F σ o Q) (s : Same H H1) : Out X W H0 H1 F σ o Q := by
  cases o with
  | no => exact h
  | exc c => exact fun C H' m s2 => h C H' m (s.trans s2)
  | ok r => exact fun v2 H2 fp2 s2 g2 => h v2 H2 fp2 (s.trans s2) g2
theorem Out.imp {H0 H : Hp} {F : Fp} {σ : St} {o : Res Rs} {Q Q' : VK} (h : Out X W H0 H F σ o Q) (i : ∀ v H', Same H H' → Q v H' → Q' v H') : Out X W H0 H F σ o Q' := by
  cases o with
  | no => exact h
  | exc c => exact h
  | ok r => exact fun v2 H2 fp2 s2 g2 => i v2 H2 s2 (h v2 H2 fp2 s2 g2)
/-- a flat answer -/
theorem Out.flat {H0 H : Hp} {F : Fp} {σ : St} {d : Dat} {Q : VK} {v : V} (h : Out X W H0 H F σ (.ok (rsF d)) Q) (r : Rep (glo X) H d v []) : Q v H := h v H [] (Same.refl H) (Gv.flat r)

/-! ### constants and names -/
def fC (d : Dat) : Sto → Res Rs := fun _ => .ok (rsF d)
theorem ev_int {i j pos} : Ev X W (.Constant (.int i) j pos) (fC (.int i)) :=
  ⟨weakE pe_int fun σ H Q ⟨E, F, re, o⟩ => o.flat (by simp [Rep])⟩
theorem ev_bl {b j pos} : Ev X W (.Constant (.bool b) j pos) (fC (.bl b)) :=
  ⟨weakE pe_bl fun σ H Q ⟨E, F, re, o⟩ => o.flat (by simp [Rep])⟩
theorem ev_non {j pos} : Ev X W (.Constant .none j pos) (fC .non) :=
  ⟨weakE pe_non fun σ H Q ⟨E, F, re, o⟩ => o.flat (by simp [Rep])⟩
theorem ev_str {s : Str} {x : Tx} {j pos} (hx : s.cps.toList = x := by rfl) : Ev X W (.Constant (.str s) j pos) (fC (.str x)) :=
  ⟨weakE pe_str fun σ H Q ⟨E, F, re, o⟩ => o.flat (by simp [Rep, ← hx, mkS_tl])⟩
def rVar (i : Nat) (d : Dat) (k : Kd) : Rs := if flat d then rsF d else ⟨d, false, [i], if k = .deep then some [i] else none⟩
def fVar (i : Nat) : Sto → Res Rs := fun E => match slot E i with
  | some (d, k) => .ok (rVar i d k)
  | none => .no
theorem rVar_gv {G : Glo} {H : Hp} {E : Sto} {σ : St} {F : Fp} {i : Nat} {d : Dat} {k : Kd} {v : V} (r : Rep G H d v (F i)) : Gv G H F (rVar i d k) v H (F i) := by
  unfold rVar
  by_cases h : flat d = true
  · rw [if_pos h]
    have e := Rep.flat d v _ r h
    rw [e] at r ⊢
    exact Gv.flat r
  · rw [if_neg h]
    refine ⟨r, fun a ha => .inr ⟨i, by simp, ha⟩, fun z => by simp at z, fun m e => ?_⟩
    by_cases hk : k = .deep
    · have e' : some [i] = some m := by simpa [hk] using e
      injection e' with e'
      subst e'
      exact ⟨[], by simp, .nil, (fun _ z => nomatch z)⟩
    · have e' : (none : Option (List Nat)) = some m := by simpa [hk] using e
      cases e'
theorem rVar_d {i : Nat} {d : Dat} {k : Kd} : (rVar i d k).d = d := by
  unfold rVar
  split <;> rfl
theorem ev_var (i : Nat) {x : Str} {pos : Pos} (hN : X.N[i]? = some x := by rfl) (hv : Vis X.env.scope x := by first | exact Or.inl rfl | exact Or.inr (Or.inl rfl) | exact Or.inr (Or.inr rfl)) (hd : (x == ("__debug__" : Str)) = false := by decide)
    (hcd : (x == ("__classdict__" : Str)) = false := by decide) : Ev X W (.Name x pos) (fVar i) := by
  refine ⟨weakE (pe_var (i := i) hN hv hd hcd) fun σ H Q ⟨E, F, re, o⟩ => ?_⟩
  unfold fVar at o
  cases e : slot E i with
  | none =>
    simp only [e] at o
    exact o.elim
  | some y =>
    obtain ⟨d, k⟩ := y
    simp only [e] at o
    obtain ⟨v, h1, h2⟩ := re.rep i d k e
    exact ⟨v, h1, o v H (F i) (Same.refl H) (rVar_gv (E := E) (σ := σ) h2)⟩
/-- a constant of the module -/
theorem ev_glob {x : Str} {d : Dat} {u : Value} {v : V} {pos : Pos} (hg : Gl X x) (hm : X.mg x = some u) (r : RelV v u) (hr : Rep (glo X) (fun _ => none) d v []) (hd : (x == ("__debug__" : Str)) = false := by decide) : Ev X W (.Name x pos) (fC d) :=
  ⟨weakE (pe_glob hg hm r hd) fun σ H Q ⟨E, F, re, o⟩ => o.flat (hr.same fun _ _ z => by cases z)⟩

/-! ### tests -/
def OutB (X : Cx) (W : WX) (H : Hp) (σ : St) (o : Res Bool) (Q : Bool → Hp → Prop) : Prop := match o with
  | .ok b => ∀ H', Same H H' → Q b H'
  | .exc c => ∀ C H', X.mg (mkS c) = some (.ref C) → Same H H' → W (.ref C) none σ H'
  | .no => False
def tEt (X : Cx) (W : WX) (f : Sto → Res Bool) : TT := fun σ H Q => ∃ E F, RepE (glo X) H E σ F ∧ OutB X W H σ (f E) Q
structure Et (X : Cx) (W : WX) (e : Expr) (f : Sto → Res Bool) : Prop where
  pt : PT X e (tEt X W f)
/-- for and, or: the whole is given -/
structure Ew (X : Cx) (W : WX) (e : Expr) (f : Sto → Res Bool) : Prop where
  pw : PW X e (tEt X W f)
theorem OutB.mono {H H1 : Hp} {σ : St} {o : Res Bool} {Q : Bool → Hp → Prop} (h : OutB X W H σ o Q) (s : Same H H1) : OutB X W H1 σ o Q := by
  cases o with
  | no => exact h
  | exc c => exact fun C H' m s2 => h C H' m (s.trans s2)
  | ok r => exact fun H2 s2 => h H2 (s.trans s2)
theorem seqT {f : Sto → Res Bool} {E : Sto} {F : Fp} {σ : St} {H : Hp} {k : Bool → Res Bool} {Q Q' : Bool → Hp → Prop} (re : RepE (glo X) H E σ F) (o : OutB X W H σ ((f E).bind k) Q)
    (h : ∀ b H1, f E = .ok b → Same H H1 → OutB X W H1 σ (k b) Q → Q' b H1) : tEt X W f σ H Q' := by
  refine ⟨E, F, re, ?_⟩
  cases e : f E with
  | no =>
    rw [e] at o
    exact o
  | exc c =>
    rw [e] at o
    exact o
  | ok b =>
    intro H1 s1
    rw [e] at o
    exact h b H1 e s1 (OutB.mono (show OutB X W H σ (k b) Q from o) s1)
/-- a value that is a truth, as a test -/
def toB (r : Rs) : Res Bool := match r.d with
  | .bl b => .ok b
  | _ => .no
def tOf (f : Sto → Res Rs) : Sto → Res Bool := fun E => (f E).bind toB
theorem seqET {f : Sto → Res Rs} {E : Sto} {F : Fp} {σ : St} {H : Hp} {k : Rs → Res Bool} {Q : Bool → Hp → Prop} {Q' : VK} (re : RepE (glo X) H E σ F) (o : OutB X W H σ ((f E).bind k) Q)
    (h : ∀ r v H1 fp, f E = .ok r → Same H H1 → Gv (glo X) H F r v H1 fp → OutB X W H1 σ (k r) Q → Q' v H1) : tEv X W f σ H Q' := by
  refine ⟨E, F, re, ?_⟩
  cases e : f E with
  | no =>
    rw [e] at o
    exact o
  | exc c =>
    rw [e] at o
    exact o
  | ok r =>
    intro v H1 fp s1 g
    rw [e] at o
    exact h r v H1 fp e s1 g (OutB.mono (show OutB X W H σ (k r) Q from o) s1)
theorem et_of {e : Expr} {f : Sto → Res Rs} (h : Ev X W e f) (he : ∀ whole, isTrue e X.env whole = (do let v ← whole; standAt e.pos; holding [v] (truthy v)) := by intro _; rfl) : Et X W e (tOf f) := by
  refine ⟨weakT (pt_val h.pe he) fun σ H Q ⟨E, F, re, o⟩ => ?_⟩
  refine seqET re o fun r v H1 fp e s1 g o1 => ?_
  have gr := g.rep
  unfold toB at o1
  cases ed : r.d with
  | bl b =>
    simp only [ed] at o1
    rw [ed] at gr
    simp only [Rep] at gr
    exact ⟨b, gr.1, o1 H1 (Same.refl H1)⟩
  | _ =>
    simp only [ed] at o1
    exact o1.elim
def tNot' (f : Sto → Res Bool) : Sto → Res Bool := fun E => (f E).bind fun b => .ok (!b)
theorem et_not {e : Expr} {f : Sto → Res Bool} {pos : Pos} (h : Et X W e f) : Et X W (.UnaryOp .Not e pos) (tNot' f) := by
  refine ⟨weakT (pt_not h.pt) fun σ H Q ⟨E, F, re, o⟩ => ?_⟩
  exact seqT re o fun b H1 e s1 o1 => o1 H1 (Same.refl H1)
def tAnd' (f g : Sto → Res Bool) : Sto → Res Bool := fun E => (f E).bind fun b => if b then g E else .ok false
def tOr' (f g : Sto → Res Bool) : Sto → Res Bool := fun E => (f E).bind fun b => if b then .ok true else g E
theorem ew_and1 {a : Expr} {f : Sto → Res Bool} {pos : Pos} (h : Et X W a f) : Ew X W (.BoolOp .And [a] pos) f := ⟨pw_and1 h.pt⟩
theorem ew_or1 {a : Expr} {f : Sto → Res Bool} {pos : Pos} (h : Et X W a f) : Ew X W (.BoolOp .Or [a] pos) f := ⟨pw_or1 h.pt⟩
theorem ew_and {a b : Expr} {rest : List Expr} {f g : Sto → Res Bool} {pos : Pos} (ha : Et X W a f) (hb : Ew X W (.BoolOp .And (b :: rest) pos) g) : Ew X W (.BoolOp .And (a :: b :: rest) pos) (tAnd' f g) := by
  refine ⟨⟨fun wh pins s σ H Q I ⟨E, F, re, o⟩ => (pw_and ha.pt hb.pw).run wh pins s σ H Q I ?_⟩⟩
  refine seqT re o fun b H1 e s1 o1 => ?_
  cases b with
  | true =>
    rw [if_pos rfl]
    exact ⟨E, F, re.same s1, o1⟩
  | false =>
    rw [if_neg Bool.false_ne_true]
    exact o1 H1 (Same.refl H1)
theorem ew_or {a b : Expr} {rest : List Expr} {f g : Sto → Res Bool} {pos : Pos} (ha : Et X W a f) (hb : Ew X W (.BoolOp .Or (b :: rest) pos) g) : Ew X W (.BoolOp .Or (a :: b :: rest) pos) (tOr' f g) := by
  refine ⟨⟨fun wh pins s σ H Q I ⟨E, F, re, o⟩ => (pw_or ha.pt hb.pw).run wh pins s σ H Q I ?_⟩⟩
  refine seqT re o fun b H1 e s1 o1 => ?_
  cases b with
  | false =>
    rw [if_neg Bool.false_ne_true]
    exact ⟨E, F, re.same s1, o1⟩
  | true =>
    rw [if_pos rfl]
    exact o1 H1 (Same.refl H1)
theorem Ew.et {e : Expr} {f : Sto → Res Bool} (h : Ew X W e f) : Et X W e f := ⟨h.pw.pt⟩

/-! ### and, or, not, if-else as values -/
def fAnd (f g : Sto → Res Rs) : Sto → Res Rs := fun E => (f E).bind fun r => match r.d with
  | .bl true => g E
  | .bl false => .ok (rsF (.bl false))
  | _ => .no
def fOr (f g : Sto → Res Rs) : Sto → Res Rs := fun E => (f E).bind fun r => match r.d with
  | .bl false => g E
  | .bl true => .ok (rsF (.bl true))
  | _ => .no
def fNot (f : Sto → Res Rs) : Sto → Res Rs := fun E => (f E).bind fun r => match r.d with
  | .bl b => .ok (rsF (.bl (!b)))
  | _ => .no
theorem ev_one {a : Expr} {op} {f : Sto → Res Rs} {pos : Pos} (h : Ev X W a f) : Ev X W (.BoolOp op [a] pos) f := ⟨pe_one h.pe⟩
/-- a part in the same slots, later -/
theorem tail {g : Sto → Res Rs} {E : Sto} {F : Fp} {σ : St} {H0 H : Hp} {Q : VK} (re : RepE (glo X) H E σ F) (s : Same H0 H) (o : Out X W H0 H F σ (g E) Q) : tEv X W g σ H Q := by
  refine ⟨E, F, re, ?_⟩
  cases e : g E with
  | no =>
    rw [e] at o
    exact o
  | exc c =>
    rw [e] at o
    exact o
  | ok r =>
    rw [e] at o
    exact fun v H1 fp s1 g => o v H1 fp s1 (g.back s)
theorem ev_and {a b : Expr} {rest : List Expr} {f g : Sto → Res Rs} {pos : Pos} (ha : Ev X W a f) (hb : Ev X W (.BoolOp .And (b :: rest) pos) g) : Ev X W (.BoolOp .And (a :: b :: rest) pos) (fAnd f g) := by
  refine ⟨weakE (pe_and ha.pe hb.pe) fun σ H Q ⟨E, F, re, o⟩ => ?_⟩
  refine seqE re (Same.refl H) o fun r v H1 fp e s1 g1 o1 => ?_
  have gr := g1.rep
  cases ed : r.d with
  | bl c =>
    rw [ed] at gr
    simp only [Rep] at gr
    refine ⟨c, gr.1, ?_⟩
    cases c with
    | true =>
      simp only [ed] at o1
      rw [if_pos rfl]
      exact tail (re.same s1) s1 o1
    | false =>
      simp only [ed] at o1
      rw [if_neg Bool.false_ne_true]
      exact o1.flat (by simp [Rep])
  | _ =>
    simp only [ed] at o1
    exact o1.elim
theorem ev_or {a b : Expr} {rest : List Expr} {f g : Sto → Res Rs} {pos : Pos} (ha : Ev X W a f) (hb : Ev X W (.BoolOp .Or (b :: rest) pos) g) : Ev X W (.BoolOp .Or (a :: b :: rest) pos) (fOr f g) := by
  refine ⟨weakE (pe_or ha.pe hb.pe) fun σ H Q ⟨E, F, re, o⟩ => ?_⟩
  refine seqE re (Same.refl H) o fun r v H1 fp e s1 g1 o1 => ?_
  have gr := g1.rep
  cases ed : r.d with
  | bl c =>
    rw [ed] at gr
    simp only [Rep] at gr
    refine ⟨c, gr.1, ?_⟩
    cases c with
    | false =>
      simp only [ed] at o1
      rw [if_neg Bool.false_ne_true]
      exact tail (re.same s1) s1 o1
    | true =>
      simp only [ed] at o1
      rw [if_pos rfl]
      exact o1.flat (by simp [Rep])
  | _ =>
    simp only [ed] at o1
    exact o1.elim
theorem ev_not {a : Expr} {f : Sto → Res Rs} {pos : Pos} (ha : Ev X W a f) : Ev X W (.UnaryOp .Not a pos) (fNot f) := by
  refine ⟨weakE (pe_not ha.pe) fun σ H Q ⟨E, F, re, o⟩ => ?_⟩
  refine seqE re (Same.refl H) o fun r v H1 fp e s1 g1 o1 => ?_
  have gr := g1.rep
  cases ed : r.d with
  | bl c =>
    rw [ed] at gr
    simp only [Rep] at gr
    simp only [ed] at o1
    exact ⟨c, gr.1, o1.flat (by simp [Rep])⟩
  | _ =>
    simp only [ed] at o1
    exact o1.elim
def fIf (t : Sto → Res Bool) (f g : Sto → Res Rs) : Sto → Res Rs := fun E => (t E).bind fun b => if b then f E else g E
theorem seqTE {f : Sto → Res Bool} {E : Sto} {F : Fp} {σ : St} {H0 H : Hp} {k : Bool → Res Rs} {Q : VK} {Q' : Bool → Hp → Prop} (re : RepE (glo X) H E σ F) (o : Out X W H0 H F σ ((f E).bind k) Q)
    (h : ∀ b H1, f E = .ok b → Same H H1 → Out X W H0 H1 F σ (k b) Q → Q' b H1) : tEt X W f σ H Q' := by
  refine ⟨E, F, re, ?_⟩
  cases e : f E with
  | no =>
    rw [e] at o
    exact o
  | exc c =>
    rw [e] at o
    exact o
  | ok b =>
    intro H1 s1
    rw [e] at o
    exact h b H1 e s1 (Out.mono (show Out X W H0 H F σ (k b) Q from o) s1)
theorem ev_if {c a b : Expr} {t : Sto → Res Bool} {f g : Sto → Res Rs} {pos : Pos} (hc : Et X W c t) (ha : Ev X W a f) (hb : Ev X W b g) : Ev X W (.IfExp c a b pos) (fIf t f g) := by
  refine ⟨weakE (pe_ifExp hc.pt ha.pe hb.pe) fun σ H Q ⟨E, F, re, o⟩ => ?_⟩
  refine seqTE re o fun b H1 e s1 o1 => ?_
  cases b with
  | true =>
    rw [if_pos rfl]
    exact tail (re.same s1) s1 o1
  | false =>
    rw [if_neg Bool.false_ne_true]
    exact tail (re.same s1) s1 o1

/-! ### argument lists, displays -/
/-- several values: their data in order -/
inductive GvL (G : Glo) (H : Hp) (F : Fp) : List Rs → List V → Hp → List Addr → Prop
  | nil {H'} : GvL G H F [] [] H' []
  | cons {r rs v vs H' f f'} : Gv G H F r v H' f → GvL G H F rs vs H' f' → (∀ a ∈ f', a ∈ f → ∃ i ∈ r.src, a ∈ F i) → GvL G H F (r :: rs) (v :: vs) H' (f ++ f')
theorem GvL.same {G : Glo} {H H1 H2 : Hp} {F : Fp} {rs : List Rs} {vs : List V} {fp : List Addr} (g : GvL G H F rs vs H1 fp) (s : Same H1 H2) : GvL G H F rs vs H2 fp := by
  induction g with
  | nil => exact .nil
  | cons h _ z ih => exact .cons (h.same s) (ih s) z
theorem GvL.reps {G : Glo} {H H1 : Hp} {F : Fp} {rs : List Rs} {vs : List V} {fp : List Addr} (g : GvL G H F rs vs H1 fp) : RepL G H1 (rs.map (·.d)) vs fp := by
  induction g with
  | nil => exact RepL.nil
  | cons h _ z ih => exact RepL.cons h.rep ih
def OutA (X : Cx) (W : WX) (H0 H : Hp) (F : Fp) (σ : St) (o : Res (List Rs)) (Q : List V → Hp → Prop) : Prop := match o with
  | .ok rs => ∀ vs H' fp, Same H H' → GvL (glo X) H0 F rs vs H' fp → Q vs H'
  | .exc c => ∀ C H', X.mg (mkS c) = some (.ref C) → Same H H' → W (.ref C) none σ H'
  | .no => False
def tEa (X : Cx) (W : WX) (f : Sto → Res (List Rs)) : TA := fun σ H Q => ∃ E F, RepE (glo X) H E σ F ∧ OutA X W H H F σ (f E) Q
structure Ea (X : Cx) (W : WX) (es : List Expr) (f : Sto → Res (List Rs)) : Prop where
  pa : PA X es (tEa X W f)
def aNil : Sto → Res (List Rs) := fun _ => .ok []
def aCons (f : Sto → Res Rs) (g : Sto → Res (List Rs)) : Sto → Res (List Rs) := fun E => (f E).bind fun r => (g E).bind fun rs => .ok (r :: rs)
theorem ea_nil : Ea X W [] aNil := ⟨weakA pa_nil fun σ H Q ⟨E, F, re, o⟩ => o [] H [] (Same.refl H) .nil⟩
theorem GvL.back {G : Glo} {H0 H H1 : Hp} {F : Fp} {rs : List Rs} {vs : List V} {fp : List Addr} (s : Same H0 H) (g : GvL G H F rs vs H1 fp) : GvL G H0 F rs vs H1 fp := by
  induction g with
  | nil => exact .nil
  | cons h _ z ih => exact .cons (h.back s) ih z
/-- what is new at H is not of what was there -/
theorem GvL.src {G : Glo} {H H1 : Hp} {F : Fp} {rs : List Rs} {vs : List V} {fp : List Addr} (g : GvL G H F rs vs H1 fp) : ∀ a ∈ fp, H a = none ∨ ∃ r ∈ rs, ∃ i ∈ r.src, a ∈ F i := by
  induction g with
  | nil => exact (fun _ z => nomatch z)
  | cons h _ z ih =>
    intro a ha
    rcases List.mem_append.mp ha with q | q
    · rcases h.prv.src a q with w | ⟨i, hi, w⟩
      · exact .inl w
      · exact .inr ⟨_, by simp, i, hi, w⟩
    · rcases ih a q with w | ⟨r, hr, i, hi, w⟩
      · exact .inl w
      · exact .inr ⟨r, by simp [hr], i, hi, w⟩
theorem ea_cons {e : Expr} {es : List Expr} {f : Sto → Res Rs} {g : Sto → Res (List Rs)} (ha : Ev X W e f) (hb : Ea X W es g) (hs : starEach (e :: es) X.env = (false, eval e X.env) :: starEach es X.env := by rfl) : Ea X W (e :: es) (aCons f g) := by
  refine ⟨weakA (pa_cons ha.pe hb.pa hs) fun σ H Q ⟨E, F, re, o⟩ => ?_⟩
  refine ⟨E, F, re, ?_⟩
  unfold aCons at o
  cases e1 : f E with
  | no =>
    rw [e1] at o
    exact o
  | exc c =>
    rw [e1] at o
    exact o
  | ok r =>
    rw [e1] at o
    intro v H1 fp s1 g1
    refine ⟨E, F, re.same s1, ?_⟩
    cases e2 : g E with
    | no =>
      simp only [bind_ok, e2] at o
      exact o
    | exc c =>
      simp only [bind_ok, e2] at o
      exact fun C H' m s2 => o C H' m (s1.trans s2)
    | ok rs =>
      simp only [bind_ok, e2] at o
      intro vs H2 fp2 s2 g2
      refine o (v :: vs) H2 (fp ++ fp2) (s1.trans s2) (.cons (g1.same s2) (g2.back s1) fun a h1 h2 => ?_)
      have t1 := Rep.trk _ _ _ g1.rep a h2
      rcases g2.src a h1 with w | ⟨r', hr', i, hi, w⟩
      · exact absurd w t1
      · have t0 := re.trk i a w
        rcases g1.prv.src a h2 with w' | w'
        · exact absurd w' t0
        · exact w'
/-- what a display of these holds -/
def allSrc (rs : List Rs) : List Nat := rs.flatMap (·.src)
def allMv : List Rs → Option (List Nat)
  | [] => some []
  | r :: rs => match r.mv, allMv rs with
    | some m, some n => some (m ++ n)
    | _, _ => none
/-- the slots that are taken whole, and what they hold, stand apart -/
theorem GvL.prov {G : Glo} {H H1 : Hp} {F : Fp} {rs : List Rs} {vs : List V} {fp : List Addr} (hF : ∀ i, ∀ a ∈ F i, H a ≠ none) (g : GvL G H F rs vs H1 fp) :
    (∀ a ∈ fp, H a = none ∨ ∃ i ∈ allSrc rs, a ∈ F i) ∧ ∀ m, allMv rs = some m → ∃ fr, fp.Perm (fr ++ (m.map F).flatten) ∧ fr.Nodup ∧ ∀ a ∈ fr, H a = none ∧ Wr H1 a := by
  refine ⟨fun a ha => ?_, ?_⟩
  · rcases g.src a ha with w | ⟨r, hr, i, hi, w⟩
    · exact .inl w
    · exact .inr ⟨i, List.mem_flatMap.mpr ⟨r, hr, hi⟩, w⟩
  · induction g with
    | nil =>
      intro m e
      have : m = [] := by
        injection e with e
        exact e.symm
      subst this
      exact ⟨[], .nil, .nil, (fun _ z => nomatch z)⟩
    | @cons r rs v vs H' f f' h _ z ih =>
      intro m e
      unfold allMv at e
      cases e1 : r.mv with
      | none =>
        simp only [e1] at e
        cases e
      | some m1 =>
        cases e2 : allMv rs with
        | none =>
          simp only [e1, e2] at e
          cases e
        | some m2 =>
          simp only [e1, e2] at e
          injection e with e
          subst e
          obtain ⟨fr1, p1, n1, w1⟩ := h.prv.mv m1 e1
          obtain ⟨fr2, p2, n2, w2⟩ := ih m2 e2
          refine ⟨fr1 ++ fr2, ?_, ?_, fun a ha => ?_⟩
          · rw [List.map_append, List.flatten_append]
            have q := p1.append p2
            refine q.trans ?_
            rw [List.append_assoc, List.append_assoc]
            refine List.Perm.append_left fr1 ?_
            rw [← List.append_assoc, ← List.append_assoc]
            exact List.Perm.append_right _ List.perm_append_comm
          · refine List.nodup_append.mpr ⟨n1, n2, fun a ha b hb eab => ?_⟩
            subst eab
            have hf1 : a ∈ f := p1.mem_iff.mpr (by simp [ha])
            have hf2 : a ∈ f' := p2.mem_iff.mpr (by simp [hb])
            obtain ⟨i, _, w⟩ := z a hf2 hf1
            exact hF i a w (w1 a ha).1
          · rcases List.mem_append.mp ha with q | q
            · exact w1 a q
            · exact w2 a q
def rTup (rs : List Rs) : Rs := ⟨.tup (rs.map (·.d)), false, allSrc rs, allMv rs⟩
def rLst (rs : List Rs) : Rs := ⟨.lst (rs.map (·.d)), true, allSrc rs, allMv rs⟩
def fTup (a : Sto → Res (List Rs)) : Sto → Res Rs := fun E => (a E).bind fun rs => if rs.length ≤ 1000000 then .ok (rTup rs) else .no
def fLst (a : Sto → Res (List Rs)) : Sto → Res Rs := fun E => (a E).bind fun rs => if rs.length ≤ 1000000 then .ok (rLst rs) else .no
theorem same_new {H : Hp} {p : Addr} {o : HO} (h : H p = none) : Same H (upd H p o) := fun b x e => by
  rw [upd_ne (ne_of_none e h)]
  exact e
theorem seqA {f : Sto → Res (List Rs)} {E : Sto} {F : Fp} {σ : St} {H : Hp} {k : List Rs → Res Rs} {Q : VK} {Q' : List V → Hp → Prop} (re : RepE (glo X) H E σ F) (o : Out X W H H F σ ((f E).bind k) Q)
    (h : ∀ rs vs H1 fp, f E = .ok rs → Same H H1 → GvL (glo X) H F rs vs H1 fp → Out X W H H1 F σ (k rs) Q → Q' vs H1) : tEa X W f σ H Q' := by
  refine ⟨E, F, re, ?_⟩
  cases e : f E with
  | no =>
    rw [e] at o
    exact o
  | exc c =>
    rw [e] at o
    exact o
  | ok rs =>
    intro vs H1 fp s1 g
    rw [e] at o
    exact h rs vs H1 fp e s1 g (Out.mono (show Out X W H H F σ (k rs) Q from o) s1)
theorem sizeLine_le {n : Nat} (h : n ≤ 1000000) : n ≤ sizeLine := Nat.le_trans h (by decide)
theorem sizeLine_lt {n : Nat} (h : n ≤ 1000000) : n < sizeLine := Nat.lt_of_le_of_lt h (by decide)
theorem GvL.len {G : Glo} {H H1 : Hp} {F : Fp} {rs : List Rs} {vs : List V} {fp : List Addr} (g : GvL G H F rs vs H1 fp) : vs.length = rs.length := by
  have := g.reps.len
  rw [List.length_map] at this
  exact this
theorem ev_tup {es : List Expr} {a : Sto → Res (List Rs)} {x1} {pos : Pos} (h : Ea X W es a) : Ev X W (.Tuple es x1 pos) (fTup a) := by
  refine ⟨weakE (pe_tup h.pa) fun σ H Q ⟨E, F, re, o⟩ => ?_⟩
  refine seqA re o fun rs vs H1 fp e s1 g o1 => ?_
  by_cases hl : rs.length ≤ 1000000
  · rw [if_pos hl] at o1
    refine ⟨sizeLine_le (by rw [g.len]; exact hl), fun p hp => ?_⟩
    obtain ⟨p1, p2⟩ := g.prov (fun i => re.trk i)
    refine o1 _ _ fp (same_new hp) ⟨?_, p1, (fun z => nomatch z), fun m em => ?_⟩
    · show Rep (glo X) (upd H1 p (.tup vs)) (.tup (rs.map (·.d))) (.ref p) fp
      simp only [Rep]
      exact ⟨p, vs, rfl, .inl (.inl upd_same), g.reps.same (same_new hp)⟩
    · obtain ⟨fr, q1, q2, q3⟩ := p2 m em
      exact ⟨fr, q1, q2, fun a ha => ⟨(q3 a ha).1, (q3 a ha).2.same (same_new hp)⟩⟩
  · rw [if_neg hl] at o1
    exact o1.elim
theorem ev_lst {es : List Expr} {a : Sto → Res (List Rs)} {pos : Pos} (h : Ea X W es a) : Ev X W (.List es pos) (fLst a) := by
  refine ⟨weakE (pe_lst h.pa) fun σ H Q ⟨E, F, re, o⟩ => ?_⟩
  refine seqA re o fun rs vs H1 fp e s1 g o1 => ?_
  by_cases hl : rs.length ≤ 1000000
  · rw [if_pos hl] at o1
    refine ⟨sizeLine_le (by rw [g.len]; exact hl), fun p hp => ?_⟩
    obtain ⟨p1, p2⟩ := g.prov (fun i => re.trk i)
    have hn : H p = none := s1.free hp
    have nfp : p ∉ fp := fun z => RepL.trk _ _ _ g.reps p z hp
    have wp : Wr (upd H1 p (.lst vs)) p := ⟨_, upd_same, rfl⟩
    refine o1 _ _ (p :: fp) (same_new hp) ⟨?_, fun a ha => ?_, fun _ => ⟨p, fp, rfl, hn, wp, nfp⟩, fun m em => ?_⟩
    · show Rep (glo X) (upd H1 p (.lst vs)) (.lst (rs.map (·.d))) (.ref p) (p :: fp)
      simp only [Rep]
      exact ⟨p, vs, fp, rfl, upd_same, g.reps.same (same_new hp), rfl⟩
    · rcases List.mem_cons.mp ha with z | z
      · rw [z]
        exact .inl hn
      · exact p1 a z
    · obtain ⟨fr, q1, q2, q3⟩ := p2 m em
      refine ⟨p :: fr, q1.cons p, List.nodup_cons.mpr ⟨fun z => nfp (q1.mem_iff.mpr (by simp [z])), q2⟩, fun a ha => ?_⟩
      rcases List.mem_cons.mp ha with z | z
      · rw [z]
        exact ⟨hn, wp⟩
      · exact ⟨(q3 a z).1, (q3 a z).2.same (same_new hp)⟩
  · rw [if_neg hl] at o1
    exact o1.elim
end
end PV

/-! PV3: whether two data are equal, by Python's ==, at any depth up to a bound. -/
namespace PV
open PySem PySem.Spec L2

inductive Vw where
  | non | bl (b : Bool) | int (i : Int) | str (x : Tx) | seq (t : Bool) (xs : List Dat) | oth
def vw : Dat → Vw
  | .non => .non
  | .bl b => .bl b
  | .int i => .int i
  | .str x => .str x
  | .tup xs => .seq true xs
  | .lst xs => .seq false xs
  | .rol xs => .seq false xs
  | _ => .oth
def eqL (f : Dat → Dat → Res Bool) : List Dat → List Dat → Res Bool
  | [], [] => .ok true
  | [], _ :: _ => .ok false
  | _ :: _, [] => .ok false
  | x :: xs, y :: ys => (f x y).bind fun b => (eqL f xs ys).bind fun c => .ok (b && c)
def eqD : Nat → Dat → Dat → Res Bool
  | 0, _, _ => .no
  | n + 1, a, b => match vw a, vw b with
    | .non, .non => .ok true
    | .bl x, .bl y => .ok (x == y)
    | .bl x, .int y => .ok ((if x then 1 else 0) == y)
    | .int x, .bl y => .ok (x == (if y then 1 else 0))
    | .int x, .int y => .ok (x == y)
    | .str x, .str y => .ok (decide (x = y))
    | .seq t xs, .seq u ys => if t = u then eqL (eqD n) xs ys else .ok false
    | .oth, _ => .no
    | _, .oth => .no
    | _, _ => .ok false
def getB : Res Bool → Bool
  | .ok b => b
  | _ => false
theorem eqL_at {f : Dat → Dat → Res Bool} : ∀ {xs ys : List Dat} {r : Bool}, eqL f xs ys = .ok r →
    ((List.range (min xs.length ys.length)).all (fun j => getB (f (xs.getD j .non) (ys.getD j .non))) && xs.length == ys.length) = r ∧
    ∀ (j : Nat) (x y : Dat), xs[j]? = some x → ys[j]? = some y → ∃ b, f x y = .ok b
  | [], [], r, h => by
    simp only [eqL] at h
    cases h
    exact ⟨rfl, fun j x y e _ => by simp at e⟩
  | [], _ :: _, r, h => by
    simp only [eqL] at h
    cases h
    exact ⟨by simp, fun j x y e _ => by simp at e⟩
  | _ :: _, [], r, h => by
    simp only [eqL] at h
    cases h
    exact ⟨by simp, fun j x y _ e => by simp at e⟩
  | x :: xs, y :: ys, r, h => by
    simp only [eqL] at h
    cases e1 : f x y with
    | no =>
      rw [e1] at h
      cases h
    | exc c =>
      rw [e1] at h
      cases h
    | ok b =>
      cases e2 : eqL f xs ys with
      | no =>
        rw [e1, e2] at h
        cases h
      | exc c =>
        rw [e1, e2] at h
        cases h
      | ok c =>
        rw [e1, e2] at h
        have h : Res.ok (b && c) = Res.ok r := h
        injection h with h
        obtain ⟨i1, i2⟩ := eqL_at e2
        refine ⟨?_, fun j x' y' h1 h2 => ?_⟩
        · rw [← h, ← i1]
          have m : min (x :: xs).length (y :: ys).length = min xs.length ys.length + 1 := by
            simp only [List.length_cons]
            omega
          have l : ((x :: xs).length == (y :: ys).length) = (xs.length == ys.length) := by simp
          have g : getB (f ((x :: xs).getD 0 Dat.non) ((y :: ys).getD 0 Dat.non)) = b := by
            show getB (f x y) = b
            rw [e1]
            rfl
          rw [m, l, List.range_succ_eq_map, List.all_cons, List.all_map, g, Bool.and_assoc]
          rfl
        · cases j with
          | zero =>
            simp at h1 h2
            subst h1
            subst h2
            exact ⟨b, e1⟩
          | succ j => exact i2 j x' y' (by simpa using h1) (by simpa using h2)

/-- how a value lies that shows such a view -/
def VwAt (G : Glo) (H : Hp) (s : Shared) (u : Value) : Vw → Prop
  | .non => u = .none
  | .bl b => u = .bool b
  | .int i => ∃ t, u = .int i t
  | .str x => ∃ t, u = .str (mkS x) t
  | .seq false xs => ∃ l items vs fp, u = .ref l ∧ s.heap.IsList l items ∧ Vals vs items.toList ∧ RepL G H xs vs fp
  | .seq true xs => ∃ l items vs fp, u = .ref l ∧ s.heap.IsTuple l items ∧ Vals vs items.toList ∧ RepL G H xs vs fp
  | .oth => True
section
variable {X : Cx} {pins : List (Addr × Obj)} {σ : L2.St} {H : Hp} {s : Shared}
theorem Rep.seqL {G : Glo} {H : Hp} {d : Dat} {v : V} {fp : List Addr} {xs : List Dat} (r : Rep G H d v fp) (h : vw d = .seq false xs) : ∃ a vs f, v = .ref a ∧ SqL G.K H a vs ∧ RepL G H xs vs f ∧ ∀ b ∈ f, b ∈ fp := by
  cases d <;> simp only [vw] at h <;> cases h
  · simp only [Rep] at r
    obtain ⟨a, vs, f, e, q, rr, ef⟩ := r
    exact ⟨a, vs, f, e, .inl (.inl q), rr, fun b hb => by simp [ef, hb]⟩
  · simp only [Rep] at r
    obtain ⟨a, vs, e, q, rr⟩ := r
    refine ⟨a, vs, fp, e, ?_, rr, fun b hb => hb⟩
    rcases q with ⟨o, q⟩ | q
    · exact .inl (.inr ⟨o, q⟩)
    · exact .inr q
theorem Rep.seqT {G : Glo} {H : Hp} {d : Dat} {v : V} {fp : List Addr} {xs : List Dat} (r : Rep G H d v fp) (h : vw d = .seq true xs) : ∃ a vs, v = .ref a ∧ SqT G.K H a vs ∧ RepL G H xs vs fp := by
  cases d <;> simp only [vw] at h <;> cases h
  simp only [Rep] at r
  obtain ⟨a, vs, e, q, rr⟩ := r
  exact ⟨a, vs, e, q, rr⟩
theorem vwAt (I : Inv X pins σ H s) {d : Dat} {v : V} {u : Value} {fp : List Addr} (r : Rep (glo X) H d v fp) (rv : RelV v u) : VwAt (glo X) H s u (vw d) := by
  cases e : vw d with
  | oth => trivial
  | non =>
    cases d <;> simp only [vw] at e <;> cases e
    simp only [Rep] at r
    rw [r.1] at rv
    exact rv
  | bl b =>
    cases d <;> simp only [vw] at e <;> cases e
    simp only [Rep] at r
    rw [r.1] at rv
    exact rv
  | int i =>
    cases d <;> simp only [vw] at e <;> cases e
    simp only [Rep] at r
    rw [r.1] at rv
    exact rv
  | str x =>
    cases d <;> simp only [vw] at e <;> cases e
    simp only [Rep] at r
    rw [r.1] at rv
    exact rv
  | seq t xs =>
    cases t with
    | false =>
      obtain ⟨a, vs, f, ev, q, rr, _⟩ := r.seqL e
      subst ev
      obtain rfl : u = Value.ref a := rv
      obtain ⟨its, rl, hp, _⟩ := I.list q
      exact ⟨a, its.toArray, vs, f, rfl, hp.isList, by simpa using rl, rr⟩
    | true =>
      obtain ⟨a, vs, ev, q, rr⟩ := r.seqT e
      subst ev
      obtain rfl : u = Value.ref a := rv
      obtain ⟨its, rl, hp, _⟩ := I.tuple q
      exact ⟨a, its.toArray, vs, fp, rfl, hp, by simpa using rl, rr⟩
def vt : Value → Nat
  | .none => 0
  | .bool _ => 1
  | .int _ _ => 2
  | .str _ _ => 3
  | .ref _ => 4
  | _ => 9
def wt : Vw → Nat
  | .non => 0
  | .bl _ => 1
  | .int _ => 2
  | .str _ => 3
  | .seq _ _ => 4
  | .oth => 8
theorem VwAt.tg {G : Glo} {H : Hp} {s : Shared} {u : Value} : ∀ {w : Vw}, VwAt G H s u w → wt w ≠ 8 → vt u = wt w
  | .non, h, _ => by
    cases h
    rfl
  | .bl _, h, _ => by
    cases h
    rfl
  | .int _, h, _ => by
    obtain ⟨t, h⟩ := h
    subst h
    rfl
  | .str _, h, _ => by
    obtain ⟨t, h⟩ := h
    subst h
    rfl
  | .seq false _, h, _ => by
    obtain ⟨l, _, _, _, h, _⟩ := h
    subst h
    rfl
  | .seq true _, h, _ => by
    obtain ⟨l, _, _, _, h, _⟩ := h
    subst h
    rfl
  | .oth, _, h => absurd rfl h
theorem VwAt.two {G : Glo} {H : Hp} {s : Shared} {u : Value} {w w' : Vw} (h : VwAt G H s u w) (h' : VwAt G H s u w') (n : wt w ≠ 8) (n' : wt w' ≠ 8) : wt w = wt w' := (h.tg n).symm.trans (h'.tg n')
theorem seqD_ok {n : Nat} {a b : Dat} {t u : Bool} {xs ys : List Dat} {r : Bool} (ha : vw a = .seq t xs) (hb : vw b = .seq u ys) (h : eqD (n + 1) a b = .ok r) :
    (t = u ∧ eqL (eqD n) xs ys = .ok r) ∨ (t ≠ u ∧ r = false) := by
  simp only [eqD, ha, hb] at h
  by_cases e : t = u
  · rw [if_pos e] at h
    exact .inl ⟨e, h⟩
  · rw [if_neg e] at h
    injection h with h
    exact .inr ⟨e, h.symm⟩
theorem vals_inj {vs ws : List V} {us : List Value} (a : Vals vs us) (b : Vals ws us) : vs = ws := Vals.inj a b
/-- one value, two data: they are equal -/
theorem eqD_same (I : Inv X pins σ H s) : ∀ (n : Nat) (a b : Dat) (v w : V) (u : Value) (f g : List Addr) (r : Bool), Rep (glo X) H a v f → Rep (glo X) H b w g → RelV v u → RelV w u → eqD n a b = .ok r → r = true
  | 0, _, _, _, _, _, _, _, _, _, _, _, _, h => by cases h
  | n + 1, a, b, v, w, u, f, g, r, ra, rb, rv, rw', h => by
    have A := vwAt I ra rv
    have B := vwAt I rb rw'
    have L : ∀ (xs ys : List Dat) (vs ws : List V) (us : List Value) (f g : List Addr) (r : Bool), RepL (glo X) H xs vs f → RepL (glo X) H ys ws g → Vals vs us → Vals ws us → eqL (eqD n) xs ys = .ok r → r = true := by
      intro xs
      induction xs with
      | nil =>
        intro ys vs ws us f g r h1 h2 h3 h4 h5
        have l1 := h1.len
        have l2 := h2.len
        have l3 := h3.length
        have l4 := h4.length
        cases ys with
        | nil =>
          simp only [eqL] at h5
          injection h5 with h5
          exact h5.symm
        | cons y ys =>
          simp only [List.length_nil, List.length_cons] at l1 l2
          omega
      | cons x xs ih =>
        intro ys vs ws us f g r h1 h2 h3 h4 h5
        cases ys with
        | nil =>
          have l1 := h1.len
          have l2 := h2.len
          have l3 := h3.length
          have l4 := h4.length
          simp only [List.length_nil, List.length_cons] at l1 l2
          omega
        | cons y ys =>
          simp only [RepL] at h1 h2
          obtain ⟨v1, vs1, f1, f1', e1, e2, r1, rr1⟩ := h1
          obtain ⟨w1, ws1, g1, g1', e3, e4, r2, rr2⟩ := h2
          subst e1
          subst e3
          cases h3 with
          | cons p ps =>
            cases h4 with
            | cons q qs =>
              simp only [eqL] at h5
              cases c1 : eqD n x y with
              | no =>
                rw [c1] at h5
                cases h5
              | exc c =>
                rw [c1] at h5
                cases h5
              | ok b1 =>
                cases c2 : eqL (eqD n) xs ys with
                | no =>
                  rw [c1, c2] at h5
                  cases h5
                | exc c =>
                  rw [c1, c2] at h5
                  cases h5
                | ok b2 =>
                  rw [c1, c2] at h5
                  have h5 : Res.ok (b1 && b2) = Res.ok r := h5
                  injection h5 with h5
                  have t1 := eqD_same I n x y v1 w1 _ f1 g1 b1 r1 r2 p q c1
                  have t2 := ih ys vs1 ws1 _ _ _ b2 rr1 rr2 ps qs c2
                  rw [← h5, t1, t2]
                  rfl
    cases ea : vw a with
    | oth =>
      simp only [eqD, ea] at h
      cases h
    | seq t xs =>
      cases eb : vw b with
      | seq t' ys =>
        rw [ea] at A
        rw [eb] at B
        rcases seqD_ok ea eb h with ⟨et, hl⟩ | ⟨nt, er⟩
        · subst et
          cases t with
          | false =>
            obtain ⟨l, its, vs, fp, q1, q2, q3, q4⟩ := A
            obtain ⟨l', its', vs', fp', p1, p2, p3, p4⟩ := B
            subst q1
            injection p1 with p1
            subst p1
            obtain ⟨o, o1, o2, m, o3⟩ := q2
            obtain ⟨o', o1', o2', m', o3'⟩ := p2
            rw [o1] at o1'
            cases o1'
            rw [o3] at o3'
            injection o3' with o3' _
            subst o3'
            exact L _ _ _ _ _ _ _ _ q4 p4 q3 p3 hl
          | true =>
            obtain ⟨l, its, vs, fp, q1, q2, q3, q4⟩ := A
            obtain ⟨l', its', vs', fp', p1, p2, p3, p4⟩ := B
            subst q1
            injection p1 with p1
            subst p1
            obtain ⟨o, o1, o2, m, o3⟩ := q2
            obtain ⟨o', o1', o2', m', o3'⟩ := p2
            rw [o1] at o1'
            cases o1'
            rw [o3] at o3'
            injection o3' with o3' _
            subst o3'
            exact L _ _ _ _ _ _ _ _ q4 p4 q3 p3 hl
        · exfalso
          cases t <;> cases t' <;> first | exact nt rfl | skip
          all_goals
            obtain ⟨l, its, vs, fp, q1, q2, q3, q4⟩ := A
            obtain ⟨l', its', vs', fp', p1, p2, p3, p4⟩ := B
            subst q1
            injection p1 with p1
            subst p1
            obtain ⟨o, o1, o2, m, o3⟩ := q2
            obtain ⟨o', o1', o2', m', o3'⟩ := p2
            rw [o1] at o1'
            cases o1'
            rw [o2] at o2'
            simp at o2'
      | oth =>
        simp only [eqD, ea, eb] at h
        cases h
      | _ =>
        exfalso
        rw [ea] at A
        rw [eb] at B
        have := A.two B (by simp [wt]) (by simp [wt])
        simp [wt] at this
    | _ =>
      rw [ea] at A
      cases eb : vw b with
      | oth =>
        simp only [eqD, ea, eb] at h
        cases h
      | seq t' ys =>
        exfalso
        rw [eb] at B
        have := A.two B (by simp [wt]) (by simp [wt])
        simp [wt] at this
      | _ =>
        rw [eb] at B
        have t2 := A.two B (by simp [wt]) (by simp [wt])
        simp only [eqD, ea, eb] at h
        injection h with h
        subst h
        first
          | rfl
          | (exfalso; simp [wt] at t2; done)
          | (simp only [VwAt] at A B; subst A; injection B with B1; subst B1; simp; done)
          | (simp only [VwAt] at A B; obtain ⟨_, A⟩ := A; subst A; obtain ⟨_, B⟩ := B; injection B with B1 _; subst B1; simp; done)
          | (simp only [VwAt] at A B; obtain ⟨_, A⟩ := A; subst A; obtain ⟨_, B⟩ := B; injection B with B1 _; have := mkS_inj B1; subst this; simp; done)
theorem mkS_dec (x y : Tx) : decide (x = y) = (mkS x == mkS y) := by
  by_cases h : x = y
  · subst h
    simp
  · have : mkS x ≠ mkS y := fun e => h (mkS_inj e)
    simp [h, this]
/-- the elements of two lists, pairwise -/
theorem eqAll_at {s : Shared} {A : Around} {n : Nat} {xs ys : List Dat} {us ws : Array Value} {vs vs' : List V} {f g : List Addr} {r : Bool} {G : Glo} {H : Hp} (h : eqL (eqD n) xs ys = .ok r) (rx : RepL G H xs vs f) (ry : RepL G H ys vs' g) (vx : Vals vs us.toList) (vy : Vals vs' ws.toList)
    (E : ∀ (a b : Dat) (v w : V) (u u' : Value) (f g : List Addr) (r : Bool), Rep G H a v f → Rep G H b w g → RelV v u → RelV w u' → eqD n a b = .ok r → SeqAt.EqAt A s u u' r) :
    (us.size = xs.length) ∧ (ws.size = ys.length) ∧ ∀ j (h1 : j < us.size) (h2 : j < ws.size), SeqAt.EqAt A s us[j] ws[j] (getB (eqD n (xs.getD j .non) (ys.getD j .non))) := by
  have l1 : us.size = xs.length := by
    have a := rx.len
    have b := vx.length
    simp only [Array.length_toList] at b
    omega
  have l2 : ws.size = ys.length := by
    have a := ry.len
    have b := vy.length
    simp only [Array.length_toList] at b
    omega
  refine ⟨l1, l2, fun j h1 h2 => ?_⟩
  have ex : xs[j]? = some (xs.getD j .non) := by
    rw [List.getD_eq_getElem?_getD, List.getElem?_eq_getElem (by omega)]
    rfl
  have ey : ys[j]? = some (ys.getD j .non) := by
    rw [List.getD_eq_getElem?_getD, List.getElem?_eq_getElem (by omega)]
    rfl
  obtain ⟨b, hb⟩ := (eqL_at h).2 j _ _ ex ey
  obtain ⟨v, f1, q1, q2, _⟩ := rx.at ex
  obtain ⟨w, g1, p1, p2, _⟩ := ry.at ey
  obtain ⟨u, e1, r1⟩ := vx.get q1
  obtain ⟨u', e2, r2⟩ := vy.get p1
  have z1 : us[j] = u := by
    rw [List.getElem?_eq_getElem (by simpa using h1)] at e1
    simpa using e1
  have z2 : ws[j] = u' := by
    rw [List.getElem?_eq_getElem (by simpa using h2)] at e2
    simpa using e2
  rw [hb, z1, z2]
  exact E _ _ _ _ _ _ _ _ b q2 p2 r1 r2 hb
theorem lens {xs ys : List Dat} {n : Nat} {r : Bool} (h : eqL (eqD n) xs ys = .ok r) (e : xs.length ≠ ys.length) : r = false := by
  have := (eqL_at h).1
  rw [← this]
  simp [e]
theorem allr {xs ys : List Dat} {n : Nat} {r : Bool} (h : eqL (eqD n) xs ys = .ok r) (e : xs.length = ys.length) : (List.range xs.length).all (fun j => getB (eqD n (xs.getD j .non) (ys.getD j .non))) = r := by
  have := (eqL_at h).1
  rw [← this, e]
  simp
theorem rcAt_of {A : Around} {n : Nat} (I : Inv X pins σ H s) (hu : A.units < cLine)
    (E : ∀ (a b : Dat) (v w : V) (u u' : Value) (f g : List Addr) (r : Bool), Rep (glo X) H a v f → Rep (glo X) H b w g → RelV v u → RelV w u' → eqD n a b = .ok r → SeqAt.EqAt A.in1 s u u' r)
    {a b : Dat} {v w : V} {u u' : Value} {f g : List Addr} {r : Bool} (ra : Rep (glo X) H a v f) (rb : Rep (glo X) H b w g) (rv : RelV v u) (rw' : RelV w u') (h : eqD (n + 1) a b = .ok r) : SeqAt.RcAt A s u u' r := by
  have P := vwAt I ra rv
  have Q := vwAt I rb rw'
  cases ea : vw a with
  | oth =>
    simp only [eqD, ea] at h
    cases h
  | seq t xs =>
    rw [ea] at P
    cases eb : vw b with
    | oth =>
      simp only [eqD, ea, eb] at h
      cases h
    | seq t' ys =>
      rw [eb] at Q
      rcases seqD_ok ea eb h with ⟨et, hl⟩ | ⟨nt, er⟩
      · subst et
        cases t with
        | false =>
          obtain ⟨l, its, vs, fp, q1, q2, q3, q4⟩ := P
          obtain ⟨l', its', vs', fp', p1, p2, p3, p4⟩ := Q
          subst q1
          subst p1
          obtain ⟨z1, z2, z3⟩ := eqAll_at hl q4 p4 q3 p3 E
          by_cases e : xs.length = ys.length
          · rw [← allr hl e, ← z1]
            exact SeqAt.RcAt.lists q2 p2 (by omega) hu z3
          · rw [lens hl e]
            exact SeqAt.RcAt.lists_lengths q2 p2 (by simp; omega) hu
        | true =>
          obtain ⟨l, its, vs, fp, q1, q2, q3, q4⟩ := P
          obtain ⟨l', its', vs', fp', p1, p2, p3, p4⟩ := Q
          subst q1
          subst p1
          obtain ⟨z1, z2, z3⟩ := eqAll_at hl q4 p4 q3 p3 E
          rw [← (eqL_at hl).1, ← z1, ← z2]
          exact SeqAt.RcAt.tuples q2 p2 hu z3
      · subst er
        cases t <;> cases t' <;> first | exact absurd rfl nt | skip
        · obtain ⟨l, its, vs, fp, q1, q2, q3, q4⟩ := P
          obtain ⟨l', its', vs', fp', p1, p2, p3, p4⟩ := Q
          subst q1
          subst p1
          exact SeqAt.RcAt.list_tuple q2 p2 hu
        · obtain ⟨l, its, vs, fp, q1, q2, q3, q4⟩ := P
          obtain ⟨l', its', vs', fp', p1, p2, p3, p4⟩ := Q
          subst q1
          subst p1
          exact SeqAt.RcAt.tuple_list q2 p2 hu
    | non =>
      rw [eb] at Q
      simp only [eqD, ea, eb] at h
      injection h with h
      subst h
      simp only [VwAt] at Q
      subst Q
      cases t
      · obtain ⟨l, its, vs, fp, q1, q2, q3, q4⟩ := P
        subst q1
        exact SeqAt.RcAt.list_none q2 hu
      · obtain ⟨l, its, vs, fp, q1, q2, q3, q4⟩ := P
        subst q1
        exact SeqAt.RcAt.tuple_none q2 hu
    | bl p =>
      rw [eb] at Q
      simp only [eqD, ea, eb] at h
      injection h with h
      subst h
      simp only [VwAt] at Q
      subst Q
      cases t
      · obtain ⟨l, its, vs, fp, q1, q2, q3, q4⟩ := P
        subst q1
        exact SeqAt.RcAt.list_bool _ q2 hu
      · obtain ⟨l, its, vs, fp, q1, q2, q3, q4⟩ := P
        subst q1
        exact SeqAt.RcAt.tuple_bool _ q2 hu
    | int p =>
      rw [eb] at Q
      simp only [eqD, ea, eb] at h
      injection h with h
      subst h
      simp only [VwAt] at Q
      obtain ⟨_, Q⟩ := Q
      subst Q
      cases t
      · obtain ⟨l, its, vs, fp, q1, q2, q3, q4⟩ := P
        subst q1
        exact SeqAt.RcAt.list_int _ _ q2 hu
      · obtain ⟨l, its, vs, fp, q1, q2, q3, q4⟩ := P
        subst q1
        exact SeqAt.RcAt.tuple_int _ _ q2 hu
    | str p =>
      rw [eb] at Q
      simp only [eqD, ea, eb] at h
      injection h with h
      subst h
      simp only [VwAt] at Q
      obtain ⟨_, Q⟩ := Q
      subst Q
      cases t
      · obtain ⟨l, its, vs, fp, q1, q2, q3, q4⟩ := P
        subst q1
        exact SeqAt.RcAt.list_str _ _ q2 hu
      · obtain ⟨l, its, vs, fp, q1, q2, q3, q4⟩ := P
        subst q1
        exact SeqAt.RcAt.tuple_str _ _ q2 hu
  | non =>
    rw [ea] at P
    simp only [VwAt] at P
    subst P
    cases eb : vw b with
    | oth =>
      simp only [eqD, ea, eb] at h
      cases h
    | seq t ys =>
      rw [eb] at Q
      simp only [eqD, ea, eb] at h
      injection h with h
      subst h
      cases t
      · obtain ⟨l, its, vs, fp, q1, q2, q3, q4⟩ := Q
        subst q1
        exact SeqAt.RcAt.none_list q2 hu
      · obtain ⟨l, its, vs, fp, q1, q2, q3, q4⟩ := Q
        subst q1
        exact SeqAt.RcAt.none_tuple q2 hu
    | non =>
      rw [eb] at Q
      simp only [eqD, ea, eb] at h
      injection h with h
      subst h
      simp only [VwAt] at Q
      subst Q
      exact SeqAt.RcAt.none_none
    | bl q =>
      rw [eb] at Q
      simp only [eqD, ea, eb] at h
      injection h with h
      subst h
      simp only [VwAt] at Q
      subst Q
      exact SeqAt.RcAt.none_bool _
    | int q =>
      rw [eb] at Q
      simp only [eqD, ea, eb] at h
      injection h with h
      subst h
      simp only [VwAt] at Q
      obtain ⟨_, Q⟩ := Q
      subst Q
      exact SeqAt.RcAt.none_int _ _
    | str q =>
      rw [eb] at Q
      simp only [eqD, ea, eb] at h
      injection h with h
      subst h
      simp only [VwAt] at Q
      obtain ⟨_, Q⟩ := Q
      subst Q
      exact SeqAt.RcAt.none_str _ _
  | bl p =>
    rw [ea] at P
    simp only [VwAt] at P
    subst P
    cases eb : vw b with
    | oth =>
      simp only [eqD, ea, eb] at h
      cases h
    | seq t ys =>
      rw [eb] at Q
      simp only [eqD, ea, eb] at h
      injection h with h
      subst h
      cases t
      · obtain ⟨l, its, vs, fp, q1, q2, q3, q4⟩ := Q
        subst q1
        exact SeqAt.RcAt.bool_list _ q2 hu
      · obtain ⟨l, its, vs, fp, q1, q2, q3, q4⟩ := Q
        subst q1
        exact SeqAt.RcAt.bool_tuple _ q2 hu
    | non =>
      rw [eb] at Q
      simp only [eqD, ea, eb] at h
      injection h with h
      subst h
      simp only [VwAt] at Q
      subst Q
      exact SeqAt.RcAt.bool_none _
    | bl q =>
      rw [eb] at Q
      simp only [eqD, ea, eb] at h
      injection h with h
      subst h
      simp only [VwAt] at Q
      subst Q
      exact SeqAt.RcAt.bool_bool _ _
    | int q =>
      rw [eb] at Q
      simp only [eqD, ea, eb] at h
      injection h with h
      subst h
      simp only [VwAt] at Q
      obtain ⟨_, Q⟩ := Q
      subst Q
      exact SeqAt.RcAt.bool_int _ _ _
    | str q =>
      rw [eb] at Q
      simp only [eqD, ea, eb] at h
      injection h with h
      subst h
      simp only [VwAt] at Q
      obtain ⟨_, Q⟩ := Q
      subst Q
      exact SeqAt.RcAt.bool_str _ _ _
  | int p =>
    rw [ea] at P
    simp only [VwAt] at P
    obtain ⟨_, P⟩ := P
    subst P
    cases eb : vw b with
    | oth =>
      simp only [eqD, ea, eb] at h
      cases h
    | seq t ys =>
      rw [eb] at Q
      simp only [eqD, ea, eb] at h
      injection h with h
      subst h
      cases t
      · obtain ⟨l, its, vs, fp, q1, q2, q3, q4⟩ := Q
        subst q1
        exact SeqAt.RcAt.int_list _ _ q2 hu
      · obtain ⟨l, its, vs, fp, q1, q2, q3, q4⟩ := Q
        subst q1
        exact SeqAt.RcAt.int_tuple _ _ q2 hu
    | non =>
      rw [eb] at Q
      simp only [eqD, ea, eb] at h
      injection h with h
      subst h
      simp only [VwAt] at Q
      subst Q
      exact SeqAt.RcAt.int_none _ _
    | bl q =>
      rw [eb] at Q
      simp only [eqD, ea, eb] at h
      injection h with h
      subst h
      simp only [VwAt] at Q
      subst Q
      exact SeqAt.RcAt.int_bool _ _ _
    | int q =>
      rw [eb] at Q
      simp only [eqD, ea, eb] at h
      injection h with h
      subst h
      simp only [VwAt] at Q
      obtain ⟨_, Q⟩ := Q
      subst Q
      exact SeqAt.RcAt.int_int _ _ _ _
    | str q =>
      rw [eb] at Q
      simp only [eqD, ea, eb] at h
      injection h with h
      subst h
      simp only [VwAt] at Q
      obtain ⟨_, Q⟩ := Q
      subst Q
      exact SeqAt.RcAt.int_str _ _ _ _
  | str p =>
    rw [ea] at P
    simp only [VwAt] at P
    obtain ⟨_, P⟩ := P
    subst P
    cases eb : vw b with
    | oth =>
      simp only [eqD, ea, eb] at h
      cases h
    | seq t ys =>
      rw [eb] at Q
      simp only [eqD, ea, eb] at h
      injection h with h
      subst h
      cases t
      · obtain ⟨l, its, vs, fp, q1, q2, q3, q4⟩ := Q
        subst q1
        exact SeqAt.RcAt.str_list _ _ q2 hu
      · obtain ⟨l, its, vs, fp, q1, q2, q3, q4⟩ := Q
        subst q1
        exact SeqAt.RcAt.str_tuple _ _ q2 hu
    | non =>
      rw [eb] at Q
      simp only [eqD, ea, eb] at h
      injection h with h
      subst h
      simp only [VwAt] at Q
      subst Q
      exact SeqAt.RcAt.str_none _ _
    | bl q =>
      rw [eb] at Q
      simp only [eqD, ea, eb] at h
      injection h with h
      subst h
      simp only [VwAt] at Q
      subst Q
      exact SeqAt.RcAt.str_bool _ _ _
    | int q =>
      rw [eb] at Q
      simp only [eqD, ea, eb] at h
      injection h with h
      subst h
      simp only [VwAt] at Q
      obtain ⟨_, Q⟩ := Q
      subst Q
      exact SeqAt.RcAt.str_int _ _ _ _
    | str q =>
      rw [eb] at Q
      simp only [eqD, ea, eb] at h
      injection h with h
      subst h
      simp only [VwAt] at Q
      obtain ⟨_, Q⟩ := Q
      subst Q
      rw [mkS_dec]
      exact SeqAt.RcAt.str_str _ _ _ _
theorem rcNeAt_of {A : Around} {n : Nat} (I : Inv X pins σ H s) (hu : A.units < cLine)
    (E : ∀ (a b : Dat) (v w : V) (u u' : Value) (f g : List Addr) (r : Bool), Rep (glo X) H a v f → Rep (glo X) H b w g → RelV v u → RelV w u' → eqD n a b = .ok r → SeqAt.EqAt A.in1 s u u' r)
    {a b : Dat} {v w : V} {u u' : Value} {f g : List Addr} {r : Bool} (ra : Rep (glo X) H a v f) (rb : Rep (glo X) H b w g) (rv : RelV v u) (rw' : RelV w u') (h : eqD (n + 1) a b = .ok r) : SeqAt.RcNeAt A s u u' (!r) := by
  have P := vwAt I ra rv
  have Q := vwAt I rb rw'
  cases ea : vw a with
  | oth =>
    simp only [eqD, ea] at h
    cases h
  | seq t xs =>
    rw [ea] at P
    cases eb : vw b with
    | oth =>
      simp only [eqD, ea, eb] at h
      cases h
    | seq t' ys =>
      rw [eb] at Q
      rcases seqD_ok ea eb h with ⟨et, hl⟩ | ⟨nt, er⟩
      · subst et
        cases t with
        | false =>
          obtain ⟨l, its, vs, fp, q1, q2, q3, q4⟩ := P
          obtain ⟨l', its', vs', fp', p1, p2, p3, p4⟩ := Q
          subst q1
          subst p1
          obtain ⟨z1, z2, z3⟩ := eqAll_at hl q4 p4 q3 p3 E
          by_cases e : xs.length = ys.length
          · rw [← allr hl e, ← z1]
            exact SeqAt.RcNeAt.lists q2 p2 (by omega) hu z3
          · rw [lens hl e]
            exact SeqAt.RcNeAt.lists_lengths q2 p2 (by simp; omega) hu
        | true =>
          obtain ⟨l, its, vs, fp, q1, q2, q3, q4⟩ := P
          obtain ⟨l', its', vs', fp', p1, p2, p3, p4⟩ := Q
          subst q1
          subst p1
          obtain ⟨z1, z2, z3⟩ := eqAll_at hl q4 p4 q3 p3 E
          rw [← (eqL_at hl).1, ← z1, ← z2]
          exact SeqAt.RcNeAt.tuples q2 p2 hu z3
      · subst er
        cases t <;> cases t' <;> first | exact absurd rfl nt | skip
        · obtain ⟨l, its, vs, fp, q1, q2, q3, q4⟩ := P
          obtain ⟨l', its', vs', fp', p1, p2, p3, p4⟩ := Q
          subst q1
          subst p1
          exact SeqAt.RcNeAt.list_tuple q2 p2 hu
        · obtain ⟨l, its, vs, fp, q1, q2, q3, q4⟩ := P
          obtain ⟨l', its', vs', fp', p1, p2, p3, p4⟩ := Q
          subst q1
          subst p1
          exact SeqAt.RcNeAt.tuple_list q2 p2 hu
    | non =>
      rw [eb] at Q
      simp only [eqD, ea, eb] at h
      injection h with h
      subst h
      simp only [VwAt] at Q
      subst Q
      cases t
      · obtain ⟨l, its, vs, fp, q1, q2, q3, q4⟩ := P
        subst q1
        exact SeqAt.RcNeAt.list_none q2 hu
      · obtain ⟨l, its, vs, fp, q1, q2, q3, q4⟩ := P
        subst q1
        exact SeqAt.RcNeAt.tuple_none q2 hu
    | bl p =>
      rw [eb] at Q
      simp only [eqD, ea, eb] at h
      injection h with h
      subst h
      simp only [VwAt] at Q
      subst Q
      cases t
      · obtain ⟨l, its, vs, fp, q1, q2, q3, q4⟩ := P
        subst q1
        exact SeqAt.RcNeAt.list_bool _ q2 hu
      · obtain ⟨l, its, vs, fp, q1, q2, q3, q4⟩ := P
        subst q1
        exact SeqAt.RcNeAt.tuple_bool _ q2 hu
    | int p =>
      rw [eb] at Q
      simp only [eqD, ea, eb] at h
      injection h with h
      subst h
      simp only [VwAt] at Q
      obtain ⟨_, Q⟩ := Q
      subst Q
      cases t
      · obtain ⟨l, its, vs, fp, q1, q2, q3, q4⟩ := P
        subst q1
        exact SeqAt.RcNeAt.list_int _ _ q2 hu
      · obtain ⟨l, its, vs, fp, q1, q2, q3, q4⟩ := P
        subst q1
        exact SeqAt.RcNeAt.tuple_int _ _ q2 hu
    | str p =>
      rw [eb] at Q
      simp only [eqD, ea, eb] at h
      injection h with h
      subst h
      simp only [VwAt] at Q
      obtain ⟨_, Q⟩ := Q
      subst Q
      cases t
      · obtain ⟨l, its, vs, fp, q1, q2, q3, q4⟩ := P
        subst q1
        exact SeqAt.RcNeAt.list_str _ _ q2 hu
      · obtain ⟨l, its, vs, fp, q1, q2, q3, q4⟩ := P
        subst q1
        exact SeqAt.RcNeAt.tuple_str _ _ q2 hu
  | non =>
    rw [ea] at P
    simp only [VwAt] at P
    subst P
    cases eb : vw b with
    | oth =>
      simp only [eqD, ea, eb] at h
      cases h
    | seq t ys =>
      rw [eb] at Q
      simp only [eqD, ea, eb] at h
      injection h with h
      subst h
      cases t
      · obtain ⟨l, its, vs, fp, q1, q2, q3, q4⟩ := Q
        subst q1
        exact SeqAt.RcNeAt.none_list q2 hu
      · obtain ⟨l, its, vs, fp, q1, q2, q3, q4⟩ := Q
        subst q1
        exact SeqAt.RcNeAt.none_tuple q2 hu
    | non =>
      rw [eb] at Q
      simp only [eqD, ea, eb] at h
      injection h with h
      subst h
      simp only [VwAt] at Q
      subst Q
      exact SeqAt.RcNeAt.none_none
    | bl q =>
      rw [eb] at Q
      simp only [eqD, ea, eb] at h
      injection h with h
      subst h
      simp only [VwAt] at Q
      subst Q
      exact SeqAt.RcNeAt.none_bool _
    | int q =>
      rw [eb] at Q
      simp only [eqD, ea, eb] at h
      injection h with h
      subst h
      simp only [VwAt] at Q
      obtain ⟨_, Q⟩ := Q
      subst Q
      exact SeqAt.RcNeAt.none_int _ _
    | str q =>
      rw [eb] at Q
      simp only [eqD, ea, eb] at h
      injection h with h
      subst h
      simp only [VwAt] at Q
      obtain ⟨_, Q⟩ := Q
      subst Q
      exact SeqAt.RcNeAt.none_str _ _
  | bl p =>
    rw [ea] at P
    simp only [VwAt] at P
    subst P
    cases eb : vw b with
    | oth =>
      simp only [eqD, ea, eb] at h
      cases h
    | seq t ys =>
      rw [eb] at Q
      simp only [eqD, ea, eb] at h
      injection h with h
      subst h
      cases t
      · obtain ⟨l, its, vs, fp, q1, q2, q3, q4⟩ := Q
        subst q1
        exact SeqAt.RcNeAt.bool_list _ q2 hu
      · obtain ⟨l, its, vs, fp, q1, q2, q3, q4⟩ := Q
        subst q1
        exact SeqAt.RcNeAt.bool_tuple _ q2 hu
    | non =>
      rw [eb] at Q
      simp only [eqD, ea, eb] at h
      injection h with h
      subst h
      simp only [VwAt] at Q
      subst Q
      exact SeqAt.RcNeAt.bool_none _
    | bl q =>
      rw [eb] at Q
      simp only [eqD, ea, eb] at h
      injection h with h
      subst h
      simp only [VwAt] at Q
      subst Q
      exact SeqAt.RcNeAt.bool_bool _ _
    | int q =>
      rw [eb] at Q
      simp only [eqD, ea, eb] at h
      injection h with h
      subst h
      simp only [VwAt] at Q
      obtain ⟨_, Q⟩ := Q
      subst Q
      exact SeqAt.RcNeAt.bool_int _ _ _
    | str q =>
      rw [eb] at Q
      simp only [eqD, ea, eb] at h
      injection h with h
      subst h
      simp only [VwAt] at Q
      obtain ⟨_, Q⟩ := Q
      subst Q
      exact SeqAt.RcNeAt.bool_str _ _ _
  | int p =>
    rw [ea] at P
    simp only [VwAt] at P
    obtain ⟨_, P⟩ := P
    subst P
    cases eb : vw b with
    | oth =>
      simp only [eqD, ea, eb] at h
      cases h
    | seq t ys =>
      rw [eb] at Q
      simp only [eqD, ea, eb] at h
      injection h with h
      subst h
      cases t
      · obtain ⟨l, its, vs, fp, q1, q2, q3, q4⟩ := Q
        subst q1
        exact SeqAt.RcNeAt.int_list _ _ q2 hu
      · obtain ⟨l, its, vs, fp, q1, q2, q3, q4⟩ := Q
        subst q1
        exact SeqAt.RcNeAt.int_tuple _ _ q2 hu
    | non =>
      rw [eb] at Q
      simp only [eqD, ea, eb] at h
      injection h with h
      subst h
      simp only [VwAt] at Q
      subst Q
      exact SeqAt.RcNeAt.int_none _ _
    | bl q =>
      rw [eb] at Q
      simp only [eqD, ea, eb] at h
      injection h with h
      subst h
      simp only [VwAt] at Q
      subst Q
      exact SeqAt.RcNeAt.int_bool _ _ _
    | int q =>
      rw [eb] at Q
      simp only [eqD, ea, eb] at h
      injection h with h
      subst h
      simp only [VwAt] at Q
      obtain ⟨_, Q⟩ := Q
      subst Q
      exact SeqAt.RcNeAt.int_int _ _ _ _
    | str q =>
      rw [eb] at Q
      simp only [eqD, ea, eb] at h
      injection h with h
      subst h
      simp only [VwAt] at Q
      obtain ⟨_, Q⟩ := Q
      subst Q
      exact SeqAt.RcNeAt.int_str _ _ _ _
  | str p =>
    rw [ea] at P
    simp only [VwAt] at P
    obtain ⟨_, P⟩ := P
    subst P
    cases eb : vw b with
    | oth =>
      simp only [eqD, ea, eb] at h
      cases h
    | seq t ys =>
      rw [eb] at Q
      simp only [eqD, ea, eb] at h
      injection h with h
      subst h
      cases t
      · obtain ⟨l, its, vs, fp, q1, q2, q3, q4⟩ := Q
        subst q1
        exact SeqAt.RcNeAt.str_list _ _ q2 hu
      · obtain ⟨l, its, vs, fp, q1, q2, q3, q4⟩ := Q
        subst q1
        exact SeqAt.RcNeAt.str_tuple _ _ q2 hu
    | non =>
      rw [eb] at Q
      simp only [eqD, ea, eb] at h
      injection h with h
      subst h
      simp only [VwAt] at Q
      subst Q
      exact SeqAt.RcNeAt.str_none _ _
    | bl q =>
      rw [eb] at Q
      simp only [eqD, ea, eb] at h
      injection h with h
      subst h
      simp only [VwAt] at Q
      subst Q
      exact SeqAt.RcNeAt.str_bool _ _ _
    | int q =>
      rw [eb] at Q
      simp only [eqD, ea, eb] at h
      injection h with h
      subst h
      simp only [VwAt] at Q
      obtain ⟨_, Q⟩ := Q
      subst Q
      exact SeqAt.RcNeAt.str_int _ _ _ _
    | str q =>
      rw [eb] at Q
      simp only [eqD, ea, eb] at h
      injection h with h
      subst h
      simp only [VwAt] at Q
      obtain ⟨_, Q⟩ := Q
      subst Q
      rw [mkS_dec]
      exact SeqAt.RcNeAt.str_str _ _ _ _
/-- as a truth of two values in hand -/
theorem eqAt_of (I : Inv X pins σ H s) : ∀ (n : Nat) (A : Around) (a b : Dat) (v w : V) (u u' : Value) (f g : List Addr) (r : Bool), A.units + n < cLine → Rep (glo X) H a v f → Rep (glo X) H b w g → RelV v u → RelV w u' → eqD n a b = .ok r → SeqAt.EqAt A s u u' r
  | 0, _, _, _, _, _, _, _, _, _, _, _, _, _, _, _, h => by cases h
  | n + 1, A, a, b, v, w, u, u', f, g, r, hu0, ra, rb, rv, rw', h => by
    have hu : A.units < cLine := by omega
    have P := vwAt I ra rv
    have Q := vwAt I rb rw'
    cases ea : vw a with
    | oth =>
      simp only [eqD, ea] at h
      cases h
    | seq t xs =>
      rw [ea] at P
      cases eb : vw b with
      | oth =>
        simp only [eqD, ea, eb] at h
        cases h
      | seq t' ys =>
        rw [eb] at Q
        have R := rcAt_of (A := A) I hu (fun a b v w u u' f g r ra rb rv rw' h => eqAt_of I n A.in1 a b v w u u' f g r (by show A.units + 1 + n < cLine; omega) ra rb rv rw' h) ra rb rv rw' h
        obtain ⟨l, e1⟩ : ∃ l, u = .ref l := by
          cases t
          · obtain ⟨l, _, _, _, q1, _⟩ := P
            exact ⟨l, q1⟩
          · obtain ⟨l, _, _, _, q1, _⟩ := P
            exact ⟨l, q1⟩
        obtain ⟨l', e2⟩ : ∃ l, u' = .ref l := by
          cases t'
          · obtain ⟨l, _, _, _, q1, _⟩ := Q
            exact ⟨l, q1⟩
          · obtain ⟨l, _, _, _, q1, _⟩ := Q
            exact ⟨l, q1⟩
        subst e1
        subst e2
        by_cases e : l = l'
        · subst e
          rw [eqD_same I (n + 1) a b v w (.ref l) f g r ra rb rv rw' h]
          exact SeqAt.EqAt.same _
        · exact SeqAt.EqAt.of_refs e R
      | non =>
        rw [eb] at Q
        simp only [eqD, ea, eb] at h
        injection h with h
        subst h
        simp only [VwAt] at Q
        subst Q
        cases t
        · obtain ⟨l, its, vs, fp, q1, q2, q3, q4⟩ := P
          subst q1
          exact SeqAt.EqAt.list_none q2 hu
        · obtain ⟨l, its, vs, fp, q1, q2, q3, q4⟩ := P
          subst q1
          exact SeqAt.EqAt.tuple_none q2 hu
      | bl p =>
        rw [eb] at Q
        simp only [eqD, ea, eb] at h
        injection h with h
        subst h
        simp only [VwAt] at Q
        subst Q
        cases t
        · obtain ⟨l, its, vs, fp, q1, q2, q3, q4⟩ := P
          subst q1
          exact SeqAt.EqAt.list_bool _ q2 hu
        · obtain ⟨l, its, vs, fp, q1, q2, q3, q4⟩ := P
          subst q1
          exact SeqAt.EqAt.tuple_bool _ q2 hu
      | int p =>
        rw [eb] at Q
        simp only [eqD, ea, eb] at h
        injection h with h
        subst h
        simp only [VwAt] at Q
        obtain ⟨_, Q⟩ := Q
        subst Q
        cases t
        · obtain ⟨l, its, vs, fp, q1, q2, q3, q4⟩ := P
          subst q1
          exact SeqAt.EqAt.list_int _ _ q2 hu
        · obtain ⟨l, its, vs, fp, q1, q2, q3, q4⟩ := P
          subst q1
          exact SeqAt.EqAt.tuple_int _ _ q2 hu
      | str p =>
        rw [eb] at Q
        simp only [eqD, ea, eb] at h
        injection h with h
        subst h
        simp only [VwAt] at Q
        obtain ⟨_, Q⟩ := Q
        subst Q
        cases t
        · obtain ⟨l, its, vs, fp, q1, q2, q3, q4⟩ := P
          subst q1
          exact SeqAt.EqAt.list_str _ _ q2 hu
        · obtain ⟨l, its, vs, fp, q1, q2, q3, q4⟩ := P
          subst q1
          exact SeqAt.EqAt.tuple_str _ _ q2 hu
    | non =>
      rw [ea] at P
      simp only [VwAt] at P
      subst P
      cases eb : vw b with
      | oth =>
        simp only [eqD, ea, eb] at h
        cases h
      | seq t ys =>
        rw [eb] at Q
        simp only [eqD, ea, eb] at h
        injection h with h
        subst h
        cases t
        · obtain ⟨l, its, vs, fp, q1, q2, q3, q4⟩ := Q
          subst q1
          exact SeqAt.EqAt.none_list q2 hu
        · obtain ⟨l, its, vs, fp, q1, q2, q3, q4⟩ := Q
          subst q1
          exact SeqAt.EqAt.none_tuple q2 hu
      | non =>
        rw [eb] at Q
        simp only [eqD, ea, eb] at h
        injection h with h
        subst h
        simp only [VwAt] at Q
        subst Q
        exact SeqAt.EqAt.same _
      | bl q =>
        rw [eb] at Q
        simp only [eqD, ea, eb] at h
        injection h with h
        subst h
        simp only [VwAt] at Q
        subst Q
        exact SeqAt.EqAt.none_bool _
      | int q =>
        rw [eb] at Q
        simp only [eqD, ea, eb] at h
        injection h with h
        subst h
        simp only [VwAt] at Q
        obtain ⟨_, Q⟩ := Q
        subst Q
        exact SeqAt.EqAt.none_int _ _
      | str q =>
        rw [eb] at Q
        simp only [eqD, ea, eb] at h
        injection h with h
        subst h
        simp only [VwAt] at Q
        obtain ⟨_, Q⟩ := Q
        subst Q
        exact SeqAt.EqAt.none_str _ _
    | bl p =>
      rw [ea] at P
      simp only [VwAt] at P
      subst P
      cases eb : vw b with
      | oth =>
        simp only [eqD, ea, eb] at h
        cases h
      | seq t ys =>
        rw [eb] at Q
        simp only [eqD, ea, eb] at h
        injection h with h
        subst h
        cases t
        · obtain ⟨l, its, vs, fp, q1, q2, q3, q4⟩ := Q
          subst q1
          exact SeqAt.EqAt.bool_list _ q2 hu
        · obtain ⟨l, its, vs, fp, q1, q2, q3, q4⟩ := Q
          subst q1
          exact SeqAt.EqAt.bool_tuple _ q2 hu
      | non =>
        rw [eb] at Q
        simp only [eqD, ea, eb] at h
        injection h with h
        subst h
        simp only [VwAt] at Q
        subst Q
        exact SeqAt.EqAt.bool_none _
      | bl q =>
        rw [eb] at Q
        simp only [eqD, ea, eb] at h
        injection h with h
        subst h
        simp only [VwAt] at Q
        subst Q
        exact SeqAt.EqAt.bool_bool _ _
      | int q =>
        rw [eb] at Q
        simp only [eqD, ea, eb] at h
        injection h with h
        subst h
        simp only [VwAt] at Q
        obtain ⟨_, Q⟩ := Q
        subst Q
        exact SeqAt.EqAt.bool_int _ _ _
      | str q =>
        rw [eb] at Q
        simp only [eqD, ea, eb] at h
        injection h with h
        subst h
        simp only [VwAt] at Q
        obtain ⟨_, Q⟩ := Q
        subst Q
        exact SeqAt.EqAt.bool_str _ _ _
    | int p =>
      rw [ea] at P
      simp only [VwAt] at P
      obtain ⟨_, P⟩ := P
      subst P
      cases eb : vw b with
      | oth =>
        simp only [eqD, ea, eb] at h
        cases h
      | seq t ys =>
        rw [eb] at Q
        simp only [eqD, ea, eb] at h
        injection h with h
        subst h
        cases t
        · obtain ⟨l, its, vs, fp, q1, q2, q3, q4⟩ := Q
          subst q1
          exact SeqAt.EqAt.int_list _ _ q2 hu
        · obtain ⟨l, its, vs, fp, q1, q2, q3, q4⟩ := Q
          subst q1
          exact SeqAt.EqAt.int_tuple _ _ q2 hu
      | non =>
        rw [eb] at Q
        simp only [eqD, ea, eb] at h
        injection h with h
        subst h
        simp only [VwAt] at Q
        subst Q
        exact SeqAt.EqAt.int_none _ _
      | bl q =>
        rw [eb] at Q
        simp only [eqD, ea, eb] at h
        injection h with h
        subst h
        simp only [VwAt] at Q
        subst Q
        exact SeqAt.EqAt.int_bool _ _ _
      | int q =>
        rw [eb] at Q
        simp only [eqD, ea, eb] at h
        injection h with h
        subst h
        simp only [VwAt] at Q
        obtain ⟨_, Q⟩ := Q
        subst Q
        exact SeqAt.EqAt.int_int _ _ _ _
      | str q =>
        rw [eb] at Q
        simp only [eqD, ea, eb] at h
        injection h with h
        subst h
        simp only [VwAt] at Q
        obtain ⟨_, Q⟩ := Q
        subst Q
        exact SeqAt.EqAt.int_str _ _ _ _
    | str p =>
      rw [ea] at P
      simp only [VwAt] at P
      obtain ⟨_, P⟩ := P
      subst P
      cases eb : vw b with
      | oth =>
        simp only [eqD, ea, eb] at h
        cases h
      | seq t ys =>
        rw [eb] at Q
        simp only [eqD, ea, eb] at h
        injection h with h
        subst h
        cases t
        · obtain ⟨l, its, vs, fp, q1, q2, q3, q4⟩ := Q
          subst q1
          exact SeqAt.EqAt.str_list _ _ q2 hu
        · obtain ⟨l, its, vs, fp, q1, q2, q3, q4⟩ := Q
          subst q1
          exact SeqAt.EqAt.str_tuple _ _ q2 hu
      | non =>
        rw [eb] at Q
        simp only [eqD, ea, eb] at h
        injection h with h
        subst h
        simp only [VwAt] at Q
        subst Q
        exact SeqAt.EqAt.str_none _ _
      | bl q =>
        rw [eb] at Q
        simp only [eqD, ea, eb] at h
        injection h with h
        subst h
        simp only [VwAt] at Q
        subst Q
        exact SeqAt.EqAt.str_bool _ _ _
      | int q =>
        rw [eb] at Q
        simp only [eqD, ea, eb] at h
        injection h with h
        subst h
        simp only [VwAt] at Q
        obtain ⟨_, Q⟩ := Q
        subst Q
        exact SeqAt.EqAt.str_int _ _ _ _
      | str q =>
        rw [eb] at Q
        simp only [eqD, ea, eb] at h
        injection h with h
        subst h
        simp only [VwAt] at Q
        obtain ⟨_, Q⟩ := Q
        subst Q
        rw [mkS_dec]
        exact SeqAt.EqAt.str_str _ _ _ _
def eqF (a b : Dat) : Res Bool := eqD 20 a b
theorem rcAt_ok (I : Inv X pins σ H s) {A : Around} (hu : A.units + 64 < cLine) {a b : Dat} {v w : V} {u u' : Value} {f g : List Addr} {r : Bool} (ra : Rep (glo X) H a v f) (rb : Rep (glo X) H b w g) (rv : RelV v u) (rw' : RelV w u') (h : eqF a b = .ok r) : SeqAt.RcAt A s u u' r :=
  rcAt_of (n := 19) I (by omega) (fun a b v w u u' f g r ra rb rv rw' h => eqAt_of I 19 A.in1 a b v w u u' f g r (by show A.units + 1 + 19 < cLine; omega) ra rb rv rw' h) ra rb rv rw' h
theorem rcNeAt_ok (I : Inv X pins σ H s) {A : Around} (hu : A.units + 64 < cLine) {a b : Dat} {v w : V} {u u' : Value} {f g : List Addr} {r : Bool} (ra : Rep (glo X) H a v f) (rb : Rep (glo X) H b w g) (rv : RelV v u) (rw' : RelV w u') (h : eqF a b = .ok r) : SeqAt.RcNeAt A s u u' (!r) :=
  rcNeAt_of (n := 19) I (by omega) (fun a b v w u u' f g r ra rb rv rw' h => eqAt_of I 19 A.in1 a b v w u u' f g r (by show A.units + 1 + 19 < cLine; omega) ra rb rv rw' h) ra rb rv rw' h
theorem eqAt_ok (I : Inv X pins σ H s) {A : Around} (hu : A.units + 63 < cLine) {a b : Dat} {v w : V} {u u' : Value} {f g : List Addr} {r : Bool} (ra : Rep (glo X) H a v f) (rb : Rep (glo X) H b w g) (rv : RelV v u) (rw' : RelV w u') (h : eqF a b = .ok r) : SeqAt.EqAt A s u u' r :=
  eqAt_of I 20 A a b v w u u' f g r (by omega) ra rb rv rw' h
theorem eqL_cons {f : Dat → Dat → Res Bool} {x y : Dat} {xs ys : List Dat} {r : Bool} (h : eqL f (x :: xs) (y :: ys) = .ok r) : ∃ b c, f x y = .ok b ∧ eqL f xs ys = .ok c ∧ r = (b && c) := by
  simp only [eqL] at h
  cases e1 : f x y with
  | no =>
    rw [e1] at h
    cases h
  | exc c =>
    rw [e1] at h
    cases h
  | ok b =>
    cases e2 : eqL f xs ys with
    | no =>
      rw [e1, e2] at h
      cases h
    | exc c =>
      rw [e1, e2] at h
      cases h
    | ok c =>
      rw [e1, e2] at h
      have h : Res.ok (b && c) = Res.ok r := h
      injection h with h
      exact ⟨b, c, rfl, rfl, h.symm⟩
/-- one value, two data: both answer alike -/
theorem eqD_cong (I : Inv X pins σ H s) : ∀ (n : Nat) (a b z : Dat) (v w : V) (u : Value) (f g : List Addr) (r r' : Bool), Rep (glo X) H a v f → Rep (glo X) H b w g → RelV v u → RelV w u → eqD n a z = .ok r → eqD n b z = .ok r' → r = r'
  | 0, _, _, _, _, _, _, _, _, _, _, _, _, _, _, h, _ => by cases h
  | n + 1, a, b, z, v, w, u, f, g, r, r', ra, rb, rv, rw', h, h' => by
    have A := vwAt I ra rv
    have B := vwAt I rb rw'
    have L : ∀ (xs ys zs : List Dat) (vs ws : List V) (us : List Value) (f g : List Addr) (r r' : Bool), RepL (glo X) H xs vs f → RepL (glo X) H ys ws g → Vals vs us → Vals ws us → eqL (eqD n) xs zs = .ok r → eqL (eqD n) ys zs = .ok r' → r = r' := by
      intro xs
      induction xs with
      | nil =>
        intro ys zs vs ws us f g r r' h1 h2 h3 h4 h5 h6
        have l1 := h1.len
        have l2 := h2.len
        have l3 := h3.length
        have l4 := h4.length
        cases ys with
        | nil =>
          rw [h5] at h6
          injection h6
        | cons y ys =>
          simp only [List.length_nil, List.length_cons] at l1 l2
          omega
      | cons x xs ih =>
        intro ys zs vs ws us f g r r' h1 h2 h3 h4 h5 h6
        cases ys with
        | nil =>
          have l1 := h1.len
          have l2 := h2.len
          have l3 := h3.length
          have l4 := h4.length
          simp only [List.length_nil, List.length_cons] at l1 l2
          omega
        | cons y ys =>
          cases zs with
          | nil =>
            simp only [eqL] at h5 h6
            injection h5 with h5
            injection h6 with h6
            rw [← h5, ← h6]
          | cons z zs =>
            simp only [RepL] at h1 h2
            obtain ⟨v1, vs1, f1, f1', e1, e2, r1, rr1⟩ := h1
            obtain ⟨w1, ws1, g1, g1', e3, e4, r2, rr2⟩ := h2
            subst e1
            subst e3
            cases h3 with
            | cons p ps =>
              cases h4 with
              | cons q qs =>
                obtain ⟨b1, c1, k1, k2, k3⟩ := eqL_cons h5
                obtain ⟨b2, c2, m1, m2, m3⟩ := eqL_cons h6
                rw [k3, m3, eqD_cong I n x y z v1 w1 _ f1 g1 b1 b2 r1 r2 p q k1 m1, ih ys zs vs1 ws1 _ _ _ c1 c2 rr1 rr2 ps qs k2 m2]
    have na : wt (vw a) ≠ 8 := fun e => by
      cases ea : vw a <;> rw [ea] at e <;> simp [wt] at e
      simp only [eqD, ea] at h
      cases h
    have nb : wt (vw b) ≠ 8 := fun e => by
      cases eb : vw b <;> rw [eb] at e <;> simp [wt] at e
      simp only [eqD, eb] at h'
      cases h'
    have t := A.two B na nb
    by_cases hs : ∃ t xs, vw a = .seq t xs
    · obtain ⟨t1, xs, ea⟩ := hs
      obtain ⟨t2, ys, eb⟩ : ∃ t ys, vw b = .seq t ys := by
        cases eb : vw b <;> rw [ea, eb] at t <;> simp [wt] at t
        exact ⟨_, _, rfl⟩
      rw [ea] at A
      rw [eb] at B
      have ht : t1 = t2 := by
        cases t1 <;> cases t2 <;> first | rfl | skip
        all_goals
          exfalso
          obtain ⟨l, its, vs, fp, q1, q2, q3, q4⟩ := A
          obtain ⟨l', its', vs', fp', p1, p2, p3, p4⟩ := B
          subst q1
          injection p1 with p1
          subst p1
          obtain ⟨o, o1, o2, m, o3⟩ := q2
          obtain ⟨o', o1', o2', m', o3'⟩ := p2
          rw [o1] at o1'
          cases o1'
          rw [o2] at o2'
          simp at o2'
      subst ht
      have sub : ∃ (vs vs' : List V) (us : List Value) (f g : List Addr), RepL (glo X) H xs vs f ∧ RepL (glo X) H ys vs' g ∧ Vals vs us ∧ Vals vs' us := by
        cases t1
        all_goals
          obtain ⟨l, its, vs, fp, q1, q2, q3, q4⟩ := A
          obtain ⟨l', its', vs', fp', p1, p2, p3, p4⟩ := B
          subst q1
          injection p1 with p1
          subst p1
          obtain ⟨o, o1, o2, m, o3⟩ := q2
          obtain ⟨o', o1', o2', m', o3'⟩ := p2
          rw [o1] at o1'
          cases o1'
          rw [o3] at o3'
          injection o3' with o3' _
          subst o3'
          exact ⟨vs, vs', _, fp, fp', q4, p4, q3, p3⟩
      obtain ⟨vs, vs', us, f1, g1, s1, s2, s3, s4⟩ := sub
      simp only [eqD, ea] at h
      simp only [eqD, eb] at h'
      cases ez : vw z with
      | seq tz zs =>
        simp only [ez] at h h'
        by_cases e : t1 = tz
        · rw [if_pos e] at h h'
          exact L _ _ _ _ _ _ _ _ _ _ s1 s2 s3 s4 h h'
        · rw [if_neg e] at h h'
          injection h with h
          injection h' with h'
          rw [← h, ← h']
      | oth =>
        simp only [ez] at h
        cases h
      | _ =>
        simp only [ez] at h h'
        injection h with h
        injection h' with h'
        rw [← h, ← h']
    · have e : vw a = vw b := by
        cases ea : vw a with
        | seq t xs => exact absurd ⟨t, xs, ea⟩ hs
        | oth =>
          rw [ea] at na
          simp [wt] at na
        | non =>
          rw [ea] at t
          cases eb : vw b <;> rw [eb] at t <;> simp [wt] at t
          all_goals rfl
        | bl x =>
          rw [ea] at t A
          cases eb : vw b <;> rw [eb] at t B <;> simp [wt] at t
          simp only [VwAt] at A B
          subst A
          injection B with B
          rw [B]
        | int x =>
          rw [ea] at t A
          cases eb : vw b <;> rw [eb] at t B <;> simp [wt] at t
          simp only [VwAt] at A B
          obtain ⟨_, A⟩ := A
          obtain ⟨_, B⟩ := B
          subst A
          injection B with B _
          rw [B]
        | str x =>
          rw [ea] at t A
          cases eb : vw b <;> rw [eb] at t B <;> simp [wt] at t
          simp only [VwAt] at A B
          obtain ⟨_, A⟩ := A
          obtain ⟨_, B⟩ := B
          subst A
          injection B with B _
          rw [mkS_inj B]
      have : eqD (n + 1) a z = eqD (n + 1) b z := by simp only [eqD, e]
      rw [this, h'] at h
      injection h with h
      exact h.symm
end
end PV

/-! PV4: operators, comparisons, subscripts over pure data. -/
namespace PV
open PySem PySem.Spec L2

/-- what a context must be -/
structure XOk (k : Nat) (X : Cx) : Prop where
  calm : X.calm = true
  nd : X.N.Nodup
  hr : Room k X.A
theorem XOk.hu {k : Nat} {X : Cx} (C : XOk k X) : X.A.units + 1 < cLine := hu_of C.hr
theorem XOk.u64 {k : Nat} {X : Cx} (C : XOk k X) : X.A.units + 64 < cLine := C.hr.units
theorem XOk.u65 {k : Nat} {X : Cx} (C : XOk k X) : X.A.units + 65 < cLine := by
  have := C.hr.un
  omega

section
variable {X : Cx} {W : WX} {k : Nat}
theorem pe_orE {e : Expr} {t u : TE} (a : PE X e t) (b : PE X e u) : PE X e (fun σ H Q => t σ H Q ∨ u σ H Q) :=
  ⟨fun pins s σ H Q I h => h.elim (a.run pins s σ H Q I) (b.run pins s σ H Q I)⟩
/-- by values, at data -/
def OpS (X : Cx) (r : R2) (g : Rs → Rs → Res Rs) : Prop := ∀ (W : WX) (H0 H : Hp) (F : Fp) (σ : L2.St) (ra rb : Rs) (x y : V) (fa fb : List Addr) (Q : VK),
  Same H0 H → (∀ i, ∀ a ∈ F i, H0 a ≠ none) → Gv (glo X) H0 F ra x H fa → Gv (glo X) H0 F rb y H fb → Out X W H0 H F σ (g ra rb) Q → r x y H Q
def fBin (g : Rs → Rs → Res Rs) (fa fb : Sto → Res Rs) : Sto → Res Rs := fun E => (fa E).bind fun ra => (fb E).bind fun rb => g ra rb
theorem ev_bin2 {a b e : Expr} {r : R2} {g : Rs → Rs → Res Rs} {fa fb : Sto → Res Rs} (hg : OpS X r g) (p : ∀ {ta tb : TE}, PE X a ta → PE X b tb → PE X e (tOp r ta tb)) (ha : Ev X W a fa) (hb : Ev X W b fb) : Ev X W e (fBin g fa fb) := by
  refine ⟨weakE (p ha.pe hb.pe) fun σ H Q ⟨E, F, re, o⟩ => ?_⟩
  refine seqE re (Same.refl H) o fun ra x H1 f1 e1 s1 g1 o1 => ?_
  refine seqE (re.same s1) s1 o1 fun rb y H2 f2 e2 s2 g2 o2 => ?_
  exact hg W H H2 F σ ra rb x y f1 f2 Q (s1.trans s2) (fun i => re.trk i) (g1.same s2) g2 o2
theorem ev_op {a b : Expr} {op : Operator} {pos : Pos} {r : R2} {g : Rs → Rs → Res Rs} {fa fb : Sto → Res Rs} (ho : OpR X (binaryOp op) r) (hg : OpS X r g) (ha : Ev X W a fa) (hb : Ev X W b fb) : Ev X W (.BinOp a op b pos) (fBin g fa fb) :=
  ev_bin2 hg (fun p q => pe_op ho p q) ha hb
theorem ev_cmp {a b : Expr} {op : CmpOp} {pos : Pos} {r : R2} {g : Rs → Rs → Res Rs} {fa fb : Sto → Res Rs} (ho : OpR X (compareOp op) r) (hg : OpS X r g) (ha : Ev X W a fa) (hb : Ev X W b fb) (hm : behindInMarks op b = false) : Ev X W (.Compare a [op] [b] pos) (fBin g fa fb) :=
  ev_bin2 hg (fun p q => pe_cmpR ho p q hm) ha hb

theorem rep_int {G : Glo} {H : Hp} {i : Int} {v : V} {f : List Addr} (r : Rep G H (.int i) v f) : v = .int i := by
  simp only [Rep] at r
  exact r.1
theorem rep_str {G : Glo} {H : Hp} {x : Tx} {v : V} {f : List Addr} (r : Rep G H (.str x) v f) : v = .str (mkS x) := by
  simp only [Rep] at r
  exact r.1
theorem rep_bl {G : Glo} {H : Hp} {x : Bool} {v : V} {f : List Addr} (r : Rep G H (.bl x) v f) : v = .bl x := by
  simp only [Rep] at r
  exact r.1
theorem rep_non {G : Glo} {H : Hp} {v : V} {f : List Addr} (r : Rep G H .non v f) : v = .non := by
  simp only [Rep] at r
  exact r.1
theorem rep_lst {G : Glo} {H : Hp} {xs : List Dat} {v : V} {f : List Addr} (r : Rep G H (.lst xs) v f) : ∃ a vs f', v = .ref a ∧ H a = some (.lst vs) ∧ RepL G H xs vs f' ∧ f = a :: f' := by
  simpa only [Rep] using r
theorem mk_int {G : Glo} {H : Hp} {i : Int} : Rep G H (.int i) (.int i) [] := by simp [Rep]
theorem mk_bl {G : Glo} {H : Hp} {i : Bool} : Rep G H (.bl i) (.bl i) [] := by simp [Rep]
theorem mk_non {G : Glo} {H : Hp} : Rep G H .non .non [] := by simp [Rep]
theorem mk_str {G : Glo} {H : Hp} {x : Tx} : Rep G H (.str x) (.str (mkS x)) [] := by simp [Rep]
theorem mkS_app (x y : Tx) : mkS x ++ mkS y = mkS (x ++ y) := by
  show Str.append _ _ = _
  unfold Str.append mkS
  simp

/-- a new list -/
theorem Gv.newL {G : Glo} {H0 H : Hp} {F : Fp} {xs : List Dat} {vs : List V} {fp : List Addr} {p : Addr} {src : List Nat} (s : Same H0 H) (r : RepL G H xs vs fp) (hp : H p = none) (hs : ∀ a ∈ fp, H0 a = none ∨ ∃ i ∈ src, a ∈ F i) :
    Gv G H0 F ⟨.lst xs, true, src, if flatL xs then some [] else none⟩ (.ref p) (upd H p (.lst vs)) (p :: fp) := by
  have nfp : p ∉ fp := fun z => RepL.trk _ _ _ r p z hp
  have wp : Wr (upd H p (.lst vs)) p := ⟨_, upd_same, rfl⟩
  refine ⟨?_, fun a ha => ?_, fun _ => ⟨p, fp, rfl, s.free hp, wp, nfp⟩, fun m em => ?_⟩
  · simp only [Rep]
    exact ⟨p, vs, fp, rfl, upd_same, r.same (same_new hp), rfl⟩
  · rcases List.mem_cons.mp ha with z | z
    · rw [z]
      exact .inl (s.free hp)
    · exact hs a z
  · by_cases hf : flatL xs = true
    · rw [if_pos hf] at em
      injection em with em
      subst em
      have := RepL.flat _ _ _ r hf
      subst this
      refine ⟨[p], by simp, by simp, fun a ha => ?_⟩
      have : a = p := by simpa using ha
      subst this
      exact ⟨s.free hp, wp⟩
    · rw [if_neg hf] at em
      cases em
def rNewL (xs : List Dat) (src : List Nat) : Rs := ⟨.lst xs, true, src, if flatL xs then some [] else none⟩

/-! ### numbers, texts, lists: + - * // % ** -/
def gAdd (ra rb : Rs) : Res Rs := match ra.d, rb.d with
  | .int i, .int j => .ok (rsF (.int (i + j)))
  | .str x, .str y => if x.length + y.length ≤ 1000000 then .ok (rsF (.str (x ++ y))) else .no
  | .lst xs, .lst ys => if xs.length + ys.length ≤ 1000000 then .ok (rNewL (xs ++ ys) (ra.src ++ rb.src)) else .no
  | _, _ => .no
abbrev rAddA : R2 := fun x y H Q => ((rI0 fun i j => .int (i + j)) x y H Q ∨ (∃ i j, x = .str i ∧ y = .str j ∧ i.length + j.length ≤ sizeLine ∧ Q (.str (i ++ j)) H)) ∨ rCat x y H Q
theorem op_addA : OpR X (binaryOp .Add) rAddA := OpR.or (OpR.or op_add op_add_str) op_cat
theorem ops_add : OpS X rAddA gAdd := by
  intro W H0 H F σ ra rb x y fa fb Q s0 tr ga gb o
  have pa := ga.rep
  have pb := gb.rep
  unfold gAdd at o
  cases ea : ra.d <;> cases eb : rb.d <;> simp only [ea, eb] at o <;> first | exact o.elim | skip
  · rw [ea] at pa
    rw [eb] at pb
    rw [rep_int pa, rep_int pb]
    exact .inl (.inl ⟨_, _, rfl, rfl, o.flat mk_int⟩)
  · rename_i xa ya
    rw [ea] at pa
    rw [eb] at pb
    by_cases h : xa.length + ya.length ≤ 1000000
    · rw [if_pos h] at o
      rw [rep_str pa, rep_str pb]
      refine .inl (.inr ⟨_, _, rfl, rfl, by rw [mkS_len, mkS_len]; exact sizeLine_le h, ?_⟩)
      rw [mkS_app]
      exact o.flat mk_str
    · rw [if_neg h] at o
      exact o.elim
  · rename_i xa ya
    rw [ea] at pa
    rw [eb] at pb
    by_cases h : xa.length + ya.length ≤ 1000000
    · rw [if_pos h] at o
      obtain ⟨a, va, f1, e1, h1, r1, z1⟩ := rep_lst pa
      obtain ⟨b, vb, f2, e2, h2, r2, z2⟩ := rep_lst pb
      refine .inr ⟨a, b, va, vb, e1, e2, h1, h2, by rw [r1.len, r2.len]; exact sizeLine_le h, fun p hp => ?_⟩
      have hs : ∀ c ∈ f1 ++ f2, H0 c = none ∨ ∃ i ∈ ra.src ++ rb.src, c ∈ F i := by
        intro c hc
        rcases List.mem_append.mp hc with q | q
        · exact (ga.prv.src c (by simp [z1, q])).imp id fun ⟨i, hi, w⟩ => ⟨i, by simp [hi], w⟩
        · exact (gb.prv.src c (by simp [z2, q])).imp id fun ⟨i, hi, w⟩ => ⟨i, by simp [hi], w⟩
      exact o _ _ _ (same_new hp) (Gv.newL s0 (r1.app r2) hp hs)
    · rw [if_neg h] at o
      exact o.elim
theorem ev_add {a b : Expr} {pos : Pos} {fa fb : Sto → Res Rs} (ha : Ev X W a fa) (hb : Ev X W b fb) : Ev X W (.BinOp a .Add b pos) (fBin gAdd fa fb) := ev_op op_addA ops_add ha hb
/-- two ints -/
def gI (C : Int → Int → Bool) (g : Int → Int → Dat) (ra rb : Rs) : Res Rs := match ra.d, rb.d with
  | .int i, .int j => if C i j then .ok (rsF (g i j)) else .no
  | _, _ => .no
theorem ops_I {C : Int → Int → Bool} {P : Int → Int → Prop} {g : Int → Int → V} {d : Int → Int → Dat} (hC : ∀ i j, C i j = true → P i j) (hd : ∀ G H i j, Rep G H (d i j) (g i j) []) : OpS X (rI P g) (gI C d) := by
  intro W H0 H F σ ra rb x y fa fb Q s0 tr ga gb o
  have pa := ga.rep
  have pb := gb.rep
  unfold gI at o
  cases ea : ra.d <;> cases eb : rb.d <;> simp only [ea, eb] at o <;> first | exact o.elim | skip
  rename_i i j
  rw [ea] at pa
  rw [eb] at pb
  by_cases h : C i j = true
  · rw [if_pos h] at o
    exact ⟨i, j, rep_int pa, rep_int pb, hC i j h, o.flat (hd _ _ i j)⟩
  · rw [if_neg h] at o
    exact o.elim
theorem ops_I0 {g : Int → Int → V} {d : Int → Int → Dat} (hd : ∀ G H i j, Rep G H (d i j) (g i j) []) : OpS X (rI0 g) (gI (fun _ _ => true) d) := by
  intro W H0 H F σ ra rb x y fa fb Q s0 tr ga gb o
  have pa := ga.rep
  have pb := gb.rep
  unfold gI at o
  cases ea : ra.d <;> cases eb : rb.d <;> simp only [ea, eb] at o <;> first | exact o.elim | skip
  rename_i i j
  rw [ea] at pa
  rw [eb] at pb
  rw [if_pos trivial] at o
  exact ⟨i, j, rep_int pa, rep_int pb, o.flat (hd _ _ i j)⟩
def gSub : Rs → Rs → Res Rs := gI (fun _ _ => true) fun i j => .int (i - j)
theorem ev_subI {a b : Expr} {pos : Pos} {fa fb : Sto → Res Rs} (ha : Ev X W a fa) (hb : Ev X W b fb) : Ev X W (.BinOp a .Sub b pos) (fBin gSub fa fb) := ev_op op_sub (ops_I0 fun _ _ _ _ => mk_int) ha hb
def cMod (_ j : Int) : Bool := decide (0 < j)
def gMod : Rs → Rs → Res Rs := gI cMod fun i j => .int (i % j)
theorem ev_mod {a b : Expr} {pos : Pos} {fa fb : Sto → Res Rs} (ha : Ev X W a fa) (hb : Ev X W b fb) : Ev X W (.BinOp a .Mod b pos) (fBin gMod fa fb) :=
  ev_op op_mod (ops_I (fun i j h => by simpa [cMod] using h) fun _ _ _ _ => mk_int) ha hb
def cFdv (_ j : Int) : Bool := decide (0 < j) && decide (j < 1073741824)
def gFdv : Rs → Rs → Res Rs := gI cFdv fun i j => .int (i / j)
theorem ev_fdv {a b : Expr} {pos : Pos} {fa fb : Sto → Res Rs} (ha : Ev X W a fa) (hb : Ev X W b fb) : Ev X W (.BinOp a .FloorDiv b pos) (fBin gFdv fa fb) :=
  ev_op op_fdiv (ops_I (fun i j h => by simp [cFdv] at h; exact ⟨h.1, h.2⟩) fun _ _ _ _ => mk_int) ha hb
def cPow (i j : Int) : Bool := decide (0 ≤ j) && decide (j ≤ 1000000) && decide (i.natAbs < 2 ^ 64)
def gPow : Rs → Rs → Res Rs := gI cPow fun i j => .int (i ^ j.toNat)
theorem ev_pow {a b : Expr} {pos : Pos} {fa fb : Sto → Res Rs} (ha : Ev X W a fa) (hb : Ev X W b fb) : Ev X W (.BinOp a .Pow b pos) (fBin gPow fa fb) :=
  ev_op op_pow (ops_I (fun i j h => by
    unfold cPow at h
    simp only [Bool.and_eq_true, decide_eq_true_eq] at h
    exact ⟨h.1.1, h.1.2, h.2⟩) fun _ _ _ _ => mk_int) ha hb
/-! a text so many times -/
theorem foldl_reps (x : Array Nat) : ∀ (n : Nat) (acc : Array Nat), ((List.replicate n x).foldl (· ++ ·) acc).toList = acc.toList ++ (List.replicate n x.toList).flatten
  | 0, acc => by simp
  | n + 1, acc => by
    rw [List.replicate_succ, List.foldl_cons, foldl_reps x n (acc ++ x), List.replicate_succ, List.flatten_cons]
    simp
theorem mul_txt (x : Tx) (n : Int) : Txt.mul (mkS x) n = mkS (List.replicate n.toNat x).flatten := by
  unfold Txt.mul
  by_cases h : n < 1
  · have e : n.toNat = 0 := by omega
    rw [if_pos h, e]
    rfl
  · rw [if_neg h]
    by_cases h2 : (n == 1 || (mkS x).length == 0) = true
    · rw [if_pos h2]
      rcases Bool.or_eq_true_iff.mp h2 with q | q
      · have e : n = 1 := by simpa using q
        subst e
        show mkS x = mkS (List.replicate 1 x).flatten
        simp
      · have e : x = [] := by
          rw [mkS_len] at q
          simpa using q
        subst e
        simp
    · rw [if_neg h2]
      have e := foldl_reps x.toArray n.toNat #[]
      show (⟨_⟩ : Str) = ⟨_⟩
      have e2 : ((List.replicate n.toNat (mkS x).cps).foldl (· ++ ·) #[]) = (List.replicate n.toNat x).flatten.toArray := by
        apply Array.toList_inj.mp
        rw [show (mkS x).cps = x.toArray from rfl, e]
        simp
      rw [e2]
theorem op_mul_str : OpR X (binaryOp .Mult) (fun x y H Q => ∃ (z : Str) (i : Int), x = .str z ∧ y = .int i ∧ MulOk z i ∧ Q (.str (Txt.mul z i)) H) := by
  intro pins s σ H x y v u Q I rx ry h
  obtain ⟨z, i, rfl, rfl, hc, q⟩ := h
  obtain ⟨t, rfl⟩ := rx
  obtain ⟨t', rfl⟩ := ry
  exact SB.mul hc fun t2 k => ⟨.str _, H, I.tok _, ⟨_, rfl⟩, q⟩
theorem mulOk_of {z : Str} {i : Int} (h1 : -1000000 ≤ i) (h2 : i ≤ 1000000) (h3 : z.length * i.toNat ≤ 1000000) : MulOk z i := by
  refine ⟨by simp; omega, fun h _ => ?_, fun h _ => ?_⟩
  · have hi : (0 : Int) < i := by omega
    have : (z.length : Int) * i ≤ 1000000 := by
      have e : ((z.length * i.toNat : Nat) : Int) = (z.length : Int) * i := by
        rw [Int.natCast_mul, Int.toNat_of_nonneg (by omega)]
      omega
    intro hh
    have h4 : (z.length : Int) * 1 ≤ (z.length : Int) * i := Int.mul_le_mul_of_nonneg_left (show (1 : Int) ≤ i by omega) (by omega)
    rw [Int.mul_one] at h4
    have h5 : (9223372036854775807 : Int) / i * i ≤ 9223372036854775807 := Int.ediv_mul_le _ (by omega)
    have h6 : (9223372036854775807 : Int) < ((9223372036854775807 : Int) / i + 1) * i := Int.lt_ediv_add_one_mul_self _ hi
    have h7 : ((9223372036854775807 : Int) / i + 1) * i ≤ (z.length : Int) * i := Int.mul_le_mul_of_nonneg_right (by
      have : (9223372036854775807 : Int) / i < z.length := hh
      omega) (by omega)
    omega
  · unfold Builtin.Str.tooLong
    have e : sizeLine = 16777216 := by decide
    simp only [decide_eq_false_iff_not, e]
    omega
def cMul (i j : Int) : Bool := decide ((Builtin.Int.intBits i : Int) + (Builtin.Int.intBits j : Int) ≤ 134217728)
def gMul (ra rb : Rs) : Res Rs := match ra.d, rb.d with
  | .int i, .int j => if cMul i j then .ok (rsF (.int (i * j))) else .no
  | .str x, .int j => if -1000000 ≤ j ∧ j ≤ 1000000 ∧ x.length * j.toNat ≤ 1000000 then .ok (rsF (.str (List.replicate j.toNat x).flatten)) else .no
  | .lst xs, .int j => if -1000000 ≤ j ∧ j ≤ 1000000 ∧ xs.length * j.toNat ≤ 1000000 ∧ flatL xs = true then .ok (rNewL (List.replicate j.toNat xs).flatten []) else .no
  | _, _ => .no
abbrev rMulA : R2 := fun x y H Q => ((rI CMulX fun i j => .int (i * j)) x y H Q ∨ (∃ (z : Str) (i : Int), x = .str z ∧ y = .int i ∧ MulOk z i ∧ Q (.str (Txt.mul z i)) H)) ∨ rRep x y H Q
theorem op_mulA : OpR X (binaryOp .Mult) rMulA := OpR.or (OpR.or op_mulX op_mul_str) op_rep
theorem repl_reps {G : Glo} {H : Hp} {xs : List Dat} {vs : List V} (r : RepL G H xs vs []) : ∀ n : Nat, RepL G H (List.replicate n xs).flatten (List.replicate n vs).flatten []
  | 0 => RepL.nil
  | n + 1 => by
    rw [List.replicate_succ, List.replicate_succ, List.flatten_cons, List.flatten_cons]
    exact r.app (repl_reps r n)
theorem ops_mul : OpS X rMulA gMul := by
  intro W H0 H F σ ra rb x y fa fb Q s0 tr ga gb o
  have pa := ga.rep
  have pb := gb.rep
  unfold gMul at o
  cases ea : ra.d <;> cases eb : rb.d <;> simp only [ea, eb] at o <;> first | exact o.elim | skip
  · rename_i i j
    rw [ea] at pa
    rw [eb] at pb
    by_cases h : cMul i j = true
    · rw [if_pos h] at o
      rw [rep_int pa, rep_int pb]
      exact .inl (.inl ⟨_, _, rfl, rfl, (by
        unfold cMul at h
        have h' := of_decide_eq_true h
        exact h'), o.flat mk_int⟩)
    · rw [if_neg h] at o
      exact o.elim
  · rename_i xa j
    rw [ea] at pa
    rw [eb] at pb
    by_cases h : -1000000 ≤ j ∧ j ≤ 1000000 ∧ xa.length * j.toNat ≤ 1000000
    · rw [if_pos h] at o
      rw [rep_str pa, rep_int pb]
      refine .inl (.inr ⟨_, _, rfl, rfl, mulOk_of h.1 h.2.1 (by rw [mkS_len]; exact h.2.2), ?_⟩)
      rw [mul_txt]
      exact o.flat mk_str
    · rw [if_neg h] at o
      exact o.elim
  · rename_i xa j
    rw [ea] at pa
    rw [eb] at pb
    by_cases h : -1000000 ≤ j ∧ j ≤ 1000000 ∧ xa.length * j.toNat ≤ 1000000 ∧ flatL xa = true
    · rw [if_pos h] at o
      obtain ⟨a, va, f1, e1, h1, r1, z1⟩ := rep_lst pa
      have ef := RepL.flat _ _ _ r1 h.2.2.2
      subst ef
      refine .inr ⟨a, j, va, e1, rep_int pb, h1, by omega, by omega, by rw [r1.len]; exact sizeLine_le h.2.2.1, fun p hp => ?_⟩
      exact o _ _ _ (same_new hp) (Gv.newL s0 (repl_reps r1 j.toNat) hp (fun _ z => nomatch z))
    · rw [if_neg h] at o
      exact o.elim
theorem ev_mul {a b : Expr} {pos : Pos} {fa fb : Sto → Res Rs} (ha : Ev X W a fa) (hb : Ev X W b fb) : Ev X W (.BinOp a .Mult b pos) (fBin gMul fa fb) := ev_op op_mulA ops_mul ha hb
def fNeg (f : Sto → Res Rs) : Sto → Res Rs := fun E => (f E).bind fun r => match r.d with
  | .int i => .ok (rsF (.int (-i)))
  | _ => .no
theorem ev_neg {a : Expr} {pos : Pos} {f : Sto → Res Rs} (ha : Ev X W a f) : Ev X W (.UnaryOp .USub a pos) (fNeg f) := by
  refine ⟨weakE (pe_un un_neg ha.pe) fun σ H Q ⟨E, F, re, o⟩ => ?_⟩
  refine seqE re (Same.refl H) o fun ra x H1 f1 e1 s1 g1 o1 => ?_
  have p := g1.rep
  cases ed : ra.d <;> simp only [ed] at o1 <;> first | exact o1.elim | skip
  rw [ed] at p
  exact ⟨_, rep_int p, o1.flat mk_int⟩

/-! ### comparisons -/
def gLt : Rs → Rs → Res Rs := gI (fun _ _ => true) fun i j => .bl (decide (i < j))
def gLe : Rs → Rs → Res Rs := gI (fun _ _ => true) fun i j => .bl (decide (i ≤ j))
def gGt : Rs → Rs → Res Rs := gI (fun _ _ => true) fun i j => .bl (decide (j < i))
def gGe : Rs → Rs → Res Rs := gI (fun _ _ => true) fun i j => .bl (decide (j ≤ i))
theorem ev_lt {a b : Expr} {pos : Pos} {fa fb : Sto → Res Rs} (ha : Ev X W a fa) (hb : Ev X W b fb) : Ev X W (.Compare a [.Lt] [b] pos) (fBin gLt fa fb) := ev_cmp op_lt (ops_I0 fun _ _ _ _ => mk_bl) ha hb (nomark _)
theorem ev_le {a b : Expr} {pos : Pos} {fa fb : Sto → Res Rs} (ha : Ev X W a fa) (hb : Ev X W b fb) : Ev X W (.Compare a [.LtE] [b] pos) (fBin gLe fa fb) := ev_cmp op_le (ops_I0 fun _ _ _ _ => mk_bl) ha hb (nomark _)
theorem ev_gt {a b : Expr} {pos : Pos} {fa fb : Sto → Res Rs} (ha : Ev X W a fa) (hb : Ev X W b fb) : Ev X W (.Compare a [.Gt] [b] pos) (fBin gGt fa fb) := ev_cmp op_gt (ops_I0 fun _ _ _ _ => mk_bl) ha hb (nomark _)
theorem ev_ge {a b : Expr} {pos : Pos} {fa fb : Sto → Res Rs} (ha : Ev X W a fa) (hb : Ev X W b fb) : Ev X W (.Compare a [.GtE] [b] pos) (fBin gGe fa fb) := ev_cmp op_ge (ops_I0 fun _ _ _ _ => mk_bl) ha hb (nomark _)
/-- == at any data but dicts and objects -/
abbrev rEqP (X : Cx) (neg : Bool) : R2 := fun x y H Q => ∃ a b f g r, Rep (glo X) H a x f ∧ Rep (glo X) H b y g ∧ eqF a b = .ok r ∧ Q (.bl (if neg then !r else r)) H
theorem op_eqP (C : XOk k X) : OpR X (compareOp .Eq) (rEqP X false) := by
  intro pins s σ H x y v u Q I rx ry h
  obtain ⟨a, b, f, g, r, ra, rb, e, q⟩ := h
  exact rcAt_ok I C.u64 ra rb rx ry e X.prog X.w X.xe _ ⟨.bl r, H, I, rfl, q⟩
theorem op_neP (C : XOk k X) : OpR X (compareOp .NotEq) (rEqP X true) := by
  intro pins s σ H x y v u Q I rx ry h
  obtain ⟨a, b, f, g, r, ra, rb, e, q⟩ := h
  exact rcNeAt_ok I C.u64 ra rb rx ry e X.prog X.w X.xe _ ⟨.bl (!r), H, I, rfl, q⟩
def gEq (ra rb : Rs) : Res Rs := (eqF ra.d rb.d).bind fun r => .ok (rsF (.bl r))
def gNe (ra rb : Rs) : Res Rs := (eqF ra.d rb.d).bind fun r => .ok (rsF (.bl (!r)))
theorem ops_eq : OpS X (rEqP X false) gEq := by
  intro W H0 H F σ ra rb x y fa fb Q s0 tr ga gb o
  unfold gEq at o
  cases e : eqF ra.d rb.d with
  | no =>
    rw [e] at o
    exact o.elim
  | exc c =>
    exfalso
    exact eqF_exc e
  | ok r =>
    rw [e] at o
    have o : Out X W H0 H F σ (.ok (rsF (.bl r))) Q := o
    exact ⟨_, _, _, _, r, ga.rep, gb.rep, e, o.flat mk_bl⟩
where
  eqL_exc {f : Dat → Dat → Res Bool} (h : ∀ a b c, f a b ≠ .exc c) : ∀ xs ys c, eqL f xs ys ≠ .exc c
    | [], [], _, e => by simp [eqL] at e
    | [], _ :: _, _, e => by simp [eqL] at e
    | _ :: _, [], _, e => by simp [eqL] at e
    | x :: xs, y :: ys, c, e => by
      simp only [eqL] at e
      cases e1 : f x y with
      | no =>
        rw [e1] at e
        cases e
      | exc c' => exact h x y c' e1
      | ok b =>
        rw [e1] at e
        cases e2 : eqL f xs ys with
        | no =>
          rw [e2] at e
          cases e
        | exc c' => exact eqL_exc h xs ys c' e2
        | ok b' =>
          rw [e2] at e
          cases e
  eqD_exc : ∀ n a b c, eqD n a b ≠ .exc c
    | 0, _, _, _, e => by cases e
    | n + 1, a, b, c, e => by
      cases ea : vw a <;> cases eb : vw b <;> simp only [eqD, ea, eb] at e <;> first | cases e | skip
      split at e
      · exact eqL_exc (eqD_exc n) _ _ _ e
      · cases e
  eqF_exc {a b : Dat} {c : Tx} : eqF a b = .exc c → False := eqD_exc 20 a b c
theorem ops_ne : OpS X (rEqP X true) gNe := by
  intro W H0 H F σ ra rb x y fa fb Q s0 tr ga gb o
  unfold gNe at o
  cases e : eqF ra.d rb.d with
  | no =>
    rw [e] at o
    exact o.elim
  | exc c =>
    exfalso
    exact ops_eq.eqF_exc e
  | ok r =>
    rw [e] at o
    have o : Out X W H0 H F σ (.ok (rsF (.bl (!r)))) Q := o
    exact ⟨_, _, _, _, r, ga.rep, gb.rep, e, o.flat mk_bl⟩
theorem ev_eq (C : XOk k X) {a b : Expr} {pos : Pos} {fa fb : Sto → Res Rs} (ha : Ev X W a fa) (hb : Ev X W b fb) : Ev X W (.Compare a [.Eq] [b] pos) (fBin gEq fa fb) := ev_cmp (op_eqP C) ops_eq ha hb (nomark _)
theorem ev_ne (C : XOk k X) {a b : Expr} {pos : Pos} {fa fb : Sto → Res Rs} (ha : Ev X W a fa) (hb : Ev X W b fb) : Ev X W (.Compare a [.NotEq] [b] pos) (fBin gNe fa fb) := ev_cmp (op_neP C) ops_ne ha hb (nomark _)
/-- is, is not: against None, True, False -/
def isNonD : Dat → Bool
  | .non => true
  | _ => false
def gIs (neg : Bool) (ra rb : Rs) : Res Rs := match ra.d, rb.d with
  | .bl a, .bl b => .ok (rsF (.bl (if neg then !decide (a = b) else decide (a = b))))
  | a, .non => .ok (rsF (.bl (if neg then !isNonD a else isNonD a)))
  | _, _ => .no
abbrev rIsA (neg : Bool) : R2 := fun x y H Q => (∃ a b : Bool, x = .bl a ∧ y = .bl b ∧ Q (.bl (if neg then !decide (a = b) else decide (a = b))) H) ∨ (y = .non ∧ Q (.bl (if neg then !decide (x = .non) else decide (x = .non))) H)
theorem op_isA : OpR X (compareOp .Is) (rIsA false) := OpR.or op_isBl op_isN
theorem op_isNotA : OpR X (compareOp .IsNot) (rIsA true) := OpR.or op_notBl op_notN
theorem rep_isNon {G : Glo} {H : Hp} {d : Dat} {v : V} {f : List Addr} (r : Rep G H d v f) : decide (v = .non) = isNonD d := by
  cases d <;> simp only [Rep] at r <;> simp only [isNonD]
  · simp [r.1]
  · simp [r.1]
  · simp [r.1]
  · simp [r.1]
  all_goals
    obtain ⟨a, r⟩ := r
    first
      | (obtain ⟨e, _⟩ := r; subst e; simp; done)
      | (obtain ⟨_, e, _⟩ := r; subst e; simp; done)
      | (obtain ⟨_, _, e, _⟩ := r; subst e; simp; done)
      | (obtain ⟨_, _, _, e, _⟩ := r; subst e; simp; done)
      | (obtain ⟨_, _, _, _, e, _⟩ := r; subst e; simp; done)
theorem ops_is {neg : Bool} : OpS X (rIsA neg) (gIs neg) := by
  intro W H0 H F σ ra rb x y fa fb Q s0 tr ga gb o
  have pa := ga.rep
  have pb := gb.rep
  unfold gIs at o
  cases eb : rb.d with
  | non =>
    rw [eb] at pb
    have key := rep_isNon pa
    cases ea : ra.d <;> simp only [ea, eb] at o <;> refine .inr ⟨rep_non pb, ?_⟩ <;> rw [ea] at key <;> rw [key] <;> exact o.flat mk_bl
  | bl b =>
    cases ea : ra.d <;> simp only [ea, eb] at o <;> first | exact o.elim | skip
    rw [ea] at pa
    rw [eb] at pb
    exact .inl ⟨_, _, rep_bl pa, rep_bl pb, o.flat mk_bl⟩
  | _ =>
    cases ea : ra.d <;> simp only [ea, eb] at o <;> exact o.elim
theorem ev_is {a b : Expr} {pos : Pos} {fa fb : Sto → Res Rs} (ha : Ev X W a fa) (hb : Ev X W b fb) : Ev X W (.Compare a [.Is] [b] pos) (fBin (gIs false) fa fb) := ev_cmp op_isA ops_is ha hb (nomark _)
theorem ev_isNot {a b : Expr} {pos : Pos} {fa fb : Sto → Res Rs} (ha : Ev X W a fa) (hb : Ev X W b fb) : Ev X W (.Compare a [.IsNot] [b] pos) (fBin (gIs true) fa fb) := ev_cmp op_isNotA ops_is ha hb (nomark _)
end
end PV

/-! PV5: in, subscripts, slices over pure data. -/
namespace PV
open PySem PySem.Spec L2

/-! ### in -/
def anyEq (x : Dat) : List Dat → Res Bool
  | [] => .ok false
  | y :: ys => (eqF y x).bind fun b => (anyEq x ys).bind fun c => .ok (b || c)
theorem anyEq_ok {x : Dat} : ∀ {ys : List Dat} {r : Bool}, anyEq x ys = .ok r → r = ys.any (fun y => getB (eqF y x)) ∧ ∀ y ∈ ys, ∃ b, eqF y x = .ok b
  | [], r, h => by
    simp only [anyEq] at h
    injection h with h
    exact ⟨h.symm, fun _ z => nomatch z⟩
  | y :: ys, r, h => by
    simp only [anyEq] at h
    cases e1 : eqF y x with
    | no =>
      rw [e1] at h
      cases h
    | exc c =>
      rw [e1] at h
      cases h
    | ok b =>
      cases e2 : anyEq x ys with
      | no =>
        rw [e1, e2] at h
        cases h
      | exc c =>
        rw [e1, e2] at h
        cases h
      | ok c =>
        rw [e1, e2] at h
        have h : Res.ok (b || c) = Res.ok r := h
        injection h with h
        obtain ⟨i1, i2⟩ := anyEq_ok e2
        refine ⟨?_, fun z hz => ?_⟩
        · rw [List.any_cons, e1, ← h, i1]
          rfl
        · rcases List.mem_cons.mp hz with q | q
          · rw [q]
            exact ⟨b, e1⟩
          · exact i2 z q
theorem anyEq_exc {x : Dat} : ∀ {ys : List Dat} {c : Tx}, anyEq x ys = .exc c → False
  | [], c, h => by
    simp only [anyEq] at h
    cases h
  | y :: ys, c, h => by
    simp only [anyEq] at h
    cases e1 : eqF y x with
    | no =>
      rw [e1] at h
      cases h
    | exc c => exact ops_eq.eqF_exc e1
    | ok b =>
      rw [e1] at h
      cases e2 : anyEq x ys with
      | no =>
        rw [e2] at h
        cases h
      | exc c => exact anyEq_exc e2
      | ok c =>
        rw [e2] at h
        cases h
section
variable {X : Cx} {pins : List (Addr × Obj)} {σ : L2.St} {H : Hp} {s : Shared} {W : WX} {k : Nat}
/-- the values that stand in a list, against one -/
theorem any_vals {A : Around} (I : Inv X pins σ H s) (hu : A.units + 64 < cLine) {x : Dat} {vx : V} {ux : Value} {fx : List Addr} (rx : Rep (glo X) H x vx fx) (ru : RelV vx ux) : ∀ (ys : List Dat) (vs : List V) (us : List Value) (fp : List Addr), RepL (glo X) H ys vs fp → Vals vs us → (∀ y ∈ ys, ∃ b, eqF y x = .ok b) →
    ∃ e : Value → Bool, (∀ u ∈ us, SeqAt.EqAt A.in1 s u ux (e u)) ∧ ∀ (i : Nat) (y : Dat) (u : Value), ys[i]? = some y → us[i]? = some u → e u = getB (eqF y x) := by
  intro ys vs us fp r v h
  -- each value by the data that it stands for; unlike data at one value have one answer
  have key : ∀ u ∈ us, ∃ b, SeqAt.EqAt A.in1 s u ux b ∧ ∀ (i : Nat) (y : Dat), ys[i]? = some y → us[i]? = some u → eqF y x = .ok b := by
    intro u hu'
    obtain ⟨i, hi⟩ := List.getElem?_of_mem hu'
    have hl : i < ys.length := by
      have a := (List.getElem?_eq_some_iff.mp hi).1
      have b := v.length
      have c := r.len
      omega
    obtain ⟨vv, f, q1, q2, _⟩ := r.at (List.getElem?_eq_getElem hl)
    obtain ⟨u', e1, r1⟩ := v.get q1
    rw [hi] at e1
    injection e1 with e1
    subst e1
    obtain ⟨b, hb⟩ := h _ (List.getElem_mem hl)
    have E := eqAt_ok (A := A.in1) I (by show A.units + 1 + 63 < cLine; omega) q2 rx r1 ru hb
    refine ⟨b, E, fun j y hy hj => ?_⟩
    obtain ⟨vv', f', p1, p2, _⟩ := r.at hy
    obtain ⟨u2, e2, r2⟩ := v.get p1
    rw [hj] at e2
    injection e2 with e2
    subst e2
    obtain ⟨b', hb'⟩ := h _ (List.mem_of_getElem? hy)
    rw [hb']
    congr 1
    exact eqD_cong I 20 _ _ x vv' vv u f' f b' b p2 q2 r2 r1 hb' hb
  classical
  refine ⟨fun u => if hm : u ∈ us then (key u hm).choose else false, fun u hm => ?_, ?_⟩
  · simp only [dif_pos hm]
    exact (key u hm).choose_spec.1
  · intro i y u hy hi
    have hm : u ∈ us := List.mem_of_getElem? hi
    simp only [dif_pos hm]
    rw [(key u hm).choose_spec.2 i y hy hi]
    rfl
/-- two lists place by place -/
theorem any_places {us : List Value} {ys : List Dat} {e : Value → Bool} {p : Dat → Bool} (l : ys.length = us.length) (g : ∀ (i : Nat) (y : Dat) (u : Value), ys[i]? = some y → us[i]? = some u → e u = p y) : us.map e = ys.map p := by
  apply List.ext_getElem?
  intro i
  rw [List.getElem?_map, List.getElem?_map]
  cases hu : us[i]? with
  | none =>
    have : ys[i]? = none := by
      rw [List.getElem?_eq_none_iff] at hu ⊢
      omega
    rw [this]
    rfl
  | some u =>
    have hl := (List.getElem?_eq_some_iff.mp hu).1
    have hy : ys[i]? = some ys[i] := List.getElem?_eq_getElem (by omega)
    rw [hy]
    show some (e u) = some (p _)
    rw [g i _ u hy hu]
abbrev rInP (X : Cx) (neg : Bool) : R2 := fun x y H Q => ∃ a b f g t ys r, Rep (glo X) H a x f ∧ Rep (glo X) H b y g ∧ vw b = .seq t ys ∧ anyEq a ys = .ok r ∧ Q (.bl (if neg then !r else r)) H
theorem in_core {A : Around} (I : Inv X pins σ H s) (hu : A.units + 64 < cLine) {x b : Dat} {vx vb : V} {ux ub : Value} {fx fb : List Addr} {t : Bool} {ys : List Dat} {r : Bool} (rx : Rep (glo X) H x vx fx) (ru : RelV vx ux) (rb : Rep (glo X) H b vb fb) (rvb : RelV vb ub) (hv : vw b = .seq t ys) (h : anyEq x ys = .ok r) :
    ∃ (l : Addr) (items : Array Value) (e : Value → Bool), ub = .ref l ∧ (if t then s.heap.IsTuple l items else s.heap.IsList l items) ∧ (∀ u, u ∈ items → SeqAt.EqAt A.in1 s u ux (e u)) ∧ items.any e = r := by
  have P := vwAt I rb rvb
  rw [hv] at P
  obtain ⟨h1, h2⟩ := anyEq_ok h
  have fin : ∀ (l : Addr) (items : Array Value) (vs : List V) (fp : List Addr), ub = .ref l → (if t then s.heap.IsTuple l items else s.heap.IsList l items) → Vals vs items.toList → RepL (glo X) H ys vs fp → ∃ (l : Addr) (items : Array Value) (e : Value → Bool), ub = .ref l ∧ (if t then s.heap.IsTuple l items else s.heap.IsList l items) ∧ (∀ u, u ∈ items → SeqAt.EqAt A.in1 s u ux (e u)) ∧ items.any e = r := by
    intro l items vs fp q1 q2 q3 q4
    obtain ⟨e, he, g⟩ := any_vals I hu rx ru ys vs items.toList fp q4 q3 h2
    refine ⟨l, items, e, q1, q2, fun u hm => he u (by simpa using hm), ?_⟩
    have ll : ys.length = items.toList.length := by
      have b := q3.length
      have c := q4.len
      omega
    have m := any_places ll g
    have : items.any e = items.toList.any e := by simp
    rw [this, h1]
    have m2 := congrArg (fun l : List Bool => l.any id) m
    simpa [List.any_map, Function.comp_def] using m2
  cases t with
  | false =>
    obtain ⟨l, its, vs, fp, q1, q2, q3, q4⟩ := P
    exact fin l its vs fp q1 q2 q3 q4
  | true =>
    obtain ⟨l, its, vs, fp, q1, q2, q3, q4⟩ := P
    exact fin l its vs fp q1 q2 q3 q4
theorem op_inP (C : XOk k X) : OpR X (compareOp .In) (rInP X false) := by
  intro pins s σ H x y v u Q I rx ry h
  obtain ⟨a, b, f, g, t, ys, r, ra, rb, hv, e, q⟩ := h
  obtain ⟨l, items, e2, h1, h2, h3, h4⟩ := in_core I C.u64 ra rx rb ry hv e
  subst h1
  have z : EP X pins σ Q (.bool (items.any e2)) s := ⟨.bl r, H, I, by rw [h4]; rfl, q⟩
  cases t with
  | false => exact SeqAt.in_listAt e2 (by simpa using h2) h3 z
  | true => exact SeqAt.in_tupleAt e2 (by simpa using h2) h3 z
theorem op_notInP (C : XOk k X) : OpR X (compareOp .NotIn) (rInP X true) := by
  intro pins s σ H x y v u Q I rx ry h
  obtain ⟨a, b, f, g, t, ys, r, ra, rb, hv, e, q⟩ := h
  obtain ⟨l, items, e2, h1, h2, h3, h4⟩ := in_core I C.u64 ra rx rb ry hv e
  subst h1
  have z : EP X pins σ Q (.bool (!items.any e2)) s := ⟨.bl (!r), H, I, by rw [h4]; rfl, q⟩
  cases t with
  | false => exact SeqAt.notIn_listAt e2 (by simpa using h2) h3 z
  | true => exact SeqAt.notIn_tupleAt e2 (by simpa using h2) h3 z
abbrev rInD (neg : Bool) : R2 := fun x y H Q => ∃ a o, y = .ref a ∧ DGet H a x o ∧ Q (.bl (if neg then !o.isSome else o.isSome)) H
theorem op_inDt (C : XOk k X) : OpR X (compareOp .In) (rInD false) := by
  intro pins s σ H x y v u Q I rx ry h
  obtain ⟨a, o, rfl, g, q⟩ := h
  cases ry
  exact d_in C.hu I g rx fun s3 I3 => ⟨.bl o.isSome, H, I3, rfl, q⟩
theorem op_notInDt (C : XOk k X) : OpR X (compareOp .NotIn) (rInD true) := by
  intro pins s σ H x y v u Q I rx ry h
  obtain ⟨a, o, rfl, g, q⟩ := h
  cases ry
  exact d_notIn C.hu I g rx fun s3 I3 => ⟨.bl (!o.isSome), H, I3, rfl, q⟩
abbrev rInS (neg : Bool) : R2 := fun x y H Q => ∃ (c : Nat) (z : Str), x = .str ⟨#[c]⟩ ∧ y = .str z ∧ Q (.bl (if neg then !decide (c ∈ z.cps.toList) else decide (c ∈ z.cps.toList))) H
abbrev rInA (X : Cx) (neg : Bool) : R2 := fun x y H Q => (rInP X neg x y H Q ∨ rInD neg x y H Q) ∨ rInS neg x y H Q
theorem op_inA (C : XOk k X) : OpR X (compareOp .In) (rInA X false) := OpR.or (OpR.or (op_inP C) (op_inDt C)) op_in_sign
theorem op_notInA (C : XOk k X) : OpR X (compareOp .NotIn) (rInA X true) := OpR.or (OpR.or (op_notInP C) (op_notInDt C)) op_notIn_sign
def rsB (neg b : Bool) : Rs := rsF (.bl (if neg then !b else b))
def gIn (neg : Bool) (ra rb : Rs) : Res Rs := match rb.d with
  | .str y => match ra.d with
    | .str [c] => .ok (rsB neg (decide (c ∈ y)))
    | _ => .no
  | .dic ks _ => match ra.d with
    | .str x => .ok (rsB neg (ks.contains x))
    | _ => .no
  | .lst ys => (anyEq ra.d ys).bind fun b => .ok (rsB neg b)
  | .rol ys => (anyEq ra.d ys).bind fun b => .ok (rsB neg b)
  | .tup ys => (anyEq ra.d ys).bind fun b => .ok (rsB neg b)
  | _ => .no
/-! ### a dict's pairs -/
def dGet : List Tx → List Dat → Tx → Option Dat
  | k :: ks, d :: ds, x => if k = x then some d else dGet ks ds x
  | _, _, _ => none
theorem dGet_val {G : Glo} {H : Hp} : ∀ {ks : List Tx} {ds : List Dat} {vs : List V} {fp : List Addr} (x : Tx), RepL G H ds vs fp → ks.length = vs.length →
    (match dGet ks ds x with
      | some d => ∃ v f, valV (kvOf ks vs) (Sum.inr (mkS x) : Key) = some v ∧ Rep G H d v f ∧ ∀ a ∈ f, a ∈ fp
      | none => valV (kvOf ks vs) (Sum.inr (mkS x) : Key) = none)
  | [], ds, vs, fp, x, r, l => by
    have : dGet [] ds x = none := by cases ds <;> rfl
    rw [this]
    have : kvOf [] vs = [] := by cases vs <;> rfl
    rw [this]
    rfl
  | k :: ks, [], vs, fp, x, r, l => by
    simp only [RepL] at r
    rw [r.1] at l
    simp at l
  | k :: ks, d :: ds, vs, fp, x, r, l => by
    simp only [RepL] at r
    obtain ⟨v, vs', f, f', e1, e2, r1, rr⟩ := r
    subst e1
    subst e2
    by_cases h : k = x
    · subst h
      have e : dGet (k :: ks) (d :: ds) k = some d := by
        show (if k = k then some d else _) = _
        rw [if_pos rfl]
      rw [e]
      exact ⟨v, f, valV_pos (p := (Sum.inr (mkS k), v)) rfl, r1, fun a ha => by simp [ha]⟩
    · have e : dGet (k :: ks) (d :: ds) x = dGet ks ds x := by
        show (if k = x then some d else _) = _
        rw [if_neg h]
      have ev : valV (kvOf (k :: ks) (v :: vs')) (Sum.inr (mkS x) : Key) = valV (kvOf ks vs') (Sum.inr (mkS x)) := by
        show valV ((Sum.inr (mkS k), v) :: kvOf ks vs') _ = _
        unfold valV
        rw [List.find?_cons, show decide ((Sum.inr (mkS k) : Key) = Sum.inr (mkS x)) = false from decide_eq_false fun q => h (mkS_inj (Sum.inr.inj q))]
      rw [e, ev]
      have ih := dGet_val x rr (by simpa using l)
      cases e3 : dGet ks ds x with
      | none =>
        rw [e3] at ih
        exact ih
      | some y =>
        rw [e3] at ih
        obtain ⟨v1, f1, q1, q2, q3⟩ := ih
        exact ⟨v1, f1, q1, q2, fun a ha => by simp [q3 a ha]⟩
theorem dGet_has : ∀ {ks : List Tx} {ds : List Dat} (x : Tx), ks.length = ds.length → (dGet ks ds x).isSome = ks.contains x
  | [], ds, x, _ => by
    have : dGet [] ds x = none := by cases ds <;> rfl
    rw [this]
    simp
  | k :: ks, [], x, l => by simp at l
  | k :: ks, d :: ds, x, l => by
    show (if k = x then some d else dGet ks ds x).isSome = _
    by_cases h : k = x
    · rw [if_pos h]
      simp [h]
    · rw [if_neg h, dGet_has x (by simpa using l)]
      simp [Ne.symm h]
theorem ops_in {neg : Bool} : OpS X (rInA X neg) (gIn neg) := by
  intro W H0 H F σ ra rb x y fa fb Q s0 tr ga gb o
  have pa := ga.rep
  have pb := gb.rep
  have seq : ∀ (t : Bool) (ys : List Dat), vw rb.d = .seq t ys → Out X W H0 H F σ ((anyEq ra.d ys).bind fun b => .ok (rsB neg b)) Q → rInA X neg x y H Q := by
    intro t ys hv o
    cases e : anyEq ra.d ys with
    | no =>
      rw [e] at o
      exact o.elim
    | exc c => exact (anyEq_exc e).elim
    | ok b =>
      rw [e] at o
      have o : Out X W H0 H F σ (.ok (rsB neg b)) Q := o
      exact .inl (.inl ⟨ra.d, rb.d, fa, fb, t, ys, b, pa, pb, hv, e, o.flat mk_bl⟩)
  unfold gIn at o
  cases eb : rb.d with
  | lst ys =>
    simp only [eb] at o
    exact seq false ys (by rw [eb]; rfl) o
  | rol ys =>
    simp only [eb] at o
    exact seq false ys (by rw [eb]; rfl) o
  | tup ys =>
    simp only [eb] at o
    exact seq true ys (by rw [eb]; rfl) o
  | str z =>
    simp only [eb] at o
    rw [eb] at pb
    split at o
    · rename_i c ea
      rw [ea] at pa
      refine .inr ⟨c, mkS z, rep_str pa, rep_str pb, ?_⟩
      rw [mkS_cps]
      exact o.flat mk_bl
    · exact o.elim
  | dic ks ds =>
    simp only [eb] at o
    rw [eb] at pb
    simp only [Rep] at pb
    obtain ⟨a, vs, f, ey, hd, l, r, _⟩ := pb
    split at o
    · rename_i z ea
      rw [ea] at pa
      refine .inl (.inr ⟨a, valV (kvOf ks vs) (Sum.inr (mkS z)), ey, ?_, ?_⟩)
      · rw [rep_str pa]
        exact .inl ⟨_, Sum.inr (mkS z), hd, rfl, rfl⟩
      · have e1 := dGet_val z r l
        have e2 := dGet_has (ks := ks) (ds := ds) z (by rw [l, r.len])
        have e3 : (valV (kvOf ks vs) (Sum.inr (mkS z) : Key)).isSome = ks.contains z := by
          rw [← e2]
          cases e4 : dGet ks ds z with
          | none =>
            rw [e4] at e1
            rw [e1]
            rfl
          | some d =>
            rw [e4] at e1
            obtain ⟨v, _, q, _⟩ := e1
            rw [q]
            rfl
        rw [e3]
        exact o.flat mk_bl
    · exact o.elim
  | _ =>
    simp only [eb] at o
    exact o.elim
theorem ev_in (C : XOk k X) {a b : Expr} {pos : Pos} {fa fb : Sto → Res Rs} (ha : Ev X W a fa) (hb : Ev X W b fb) (hm : behindInMarks .In b = false := by rfl) : Ev X W (.Compare a [.In] [b] pos) (fBin (gIn false) fa fb) := ev_cmp (op_inA C) ops_in ha hb hm
theorem ev_notIn (C : XOk k X) {a b : Expr} {pos : Pos} {fa fb : Sto → Res Rs} (ha : Ev X W a fa) (hb : Ev X W b fb) (hm : behindInMarks .NotIn b = false := by rfl) : Ev X W (.Compare a [.NotIn] [b] pos) (fBin (gIn true) fa fb) := ev_cmp (op_notInA C) ops_in ha hb hm

/-! ### subscripts -/
/-- a part of it -/
def pick (r : Rs) (d : Dat) : Rs := if flat d then rsF d else ⟨d, false, r.src, none⟩
theorem pick_out {W : WX} {H0 H : Hp} {F : Fp} {r : Rs} {d : Dat} {x v : V} {fp f : List Addr} {Q : VK} (g : Gv (glo X) H0 F r x H fp) (h : Rep (glo X) H d v f) (hf : ∀ a ∈ f, a ∈ fp) (o : Out X W H0 H F σ (.ok (pick r d)) Q) : Q v H := by
  unfold pick at o
  by_cases e : flat d = true
  · rw [if_pos e] at o
    have := Rep.flat _ _ _ h e
    subst this
    exact o.flat h
  · rw [if_neg e] at o
    exact o v H f (Same.refl H) ⟨h, ⟨fun a ha => g.prv.src a (hf a ha), (fun z => nomatch z), (fun m z => nomatch z)⟩⟩
def dAt (xs : List Dat) (i : Int) : Option Dat := (ixN xs.length i).bind fun j => xs[j]?
def gSubs (ra rb : Rs) : Res Rs := match ra.d, rb.d with
  | .lst xs, .int i => match dAt xs i with
    | some d => .ok (pick ra d)
    | none => .no
  | .rol xs, .int i => match dAt xs i with
    | some d => .ok (pick ra d)
    | none => .no
  | .tup xs, .int i => match dAt xs i with
    | some d => .ok (pick ra d)
    | none => .no
  | .str x, .int i => match (ixN x.length i).bind (fun j => x[j]?) with
    | some c => if x.length ≤ 1000000 then .ok (rsF (.str [c])) else .no
    | none => .no
  | .dic ks ds, .str x => match dGet ks ds x with
    | some d => .ok (pick ra d)
    | none => .no
  | _, _ => .no
theorem dAt_vals {G : Glo} {H : Hp} {ds : List Dat} {vs : List V} {fp : List Addr} {i : Int} {d : Dat} (r : RepL G H ds vs fp) (h : dAt ds i = some d) : ∃ v f, atI vs i = some v ∧ Rep G H d v f ∧ ∀ a ∈ f, a ∈ fp := by
  unfold dAt at h
  unfold atI
  rw [r.len]
  cases e : ixN ds.length i with
  | none =>
    rw [e] at h
    cases h
  | some j =>
    rw [e] at h
    exact r.at h
theorem ev_subs (C : XOk k X) {a b : Expr} {pos : Pos} {fa fb : Sto → Res Rs} (ha : Ev X W a fa) (hb : Ev X W b fb) (h1 : PlainIx b := by exact fun _ _ => rfl) (h2 : NoSl b := by exact fun _ _ => rfl) : Ev X W (.Subscript a b pos) (fBin gSubs fa fb) := by
  refine ⟨weakE (pe_orE (pe_ix ix_seq ha.pe hb.pe h1) (pe_dget C.hu ha.pe hb.pe h2)) fun σ H Q ⟨E, F, re, o⟩ => ?_⟩
  -- which of the two: by the data
  by_cases hd : ∃ ra ks ds, fa E = .ok ra ∧ ra.d = .dic ks ds
  · right
    obtain ⟨ra0, ks, ds, ea, ed⟩ := hd
    refine seqE re (Same.refl H) o fun ra x H1 f1 e1 s1 g1 o1 => ?_
    rw [ea] at e1
    cases e1
    refine seqE (re.same s1) s1 o1 fun rb y H2 f2 e2 s2 g2 o2 => ?_
    have pa := (g1.same s2).rep
    have pb := g2.rep
    unfold gSubs at o2
    rw [ed] at pa
    simp only [Rep] at pa
    obtain ⟨a', vs, f, ex, hr, l, r, ef⟩ := pa
    cases eb : rb.d <;> simp only [ed, eb] at o2 <;> first | exact o2.elim | skip
    rename_i z
    rw [eb] at pb
    have e3 := dGet_val z r l
    cases e4 : dGet ks ds z with
    | none =>
      simp only [e4] at o2
      exact o2.elim
    | some d =>
      simp only [e4] at o2 e3
      obtain ⟨v, f3, q1, q2, q3⟩ := e3
      refine ⟨a', v, ex, ?_, pick_out (g1.same s2) q2 (fun c hc => by simp [ef, q3 c hc]) o2⟩
      rw [rep_str pb]
      exact .inl ⟨_, Sum.inr (mkS z), hr, rfl, q1.symm⟩
  · left
    refine seqE re (Same.refl H) o fun ra x H1 f1 e1 s1 g1 o1 => ?_
    refine seqE (re.same s1) s1 o1 fun rb y H2 f2 e2 s2 g2 o2 => ?_
    have ga := g1.same s2
    have pa := ga.rep
    have pb := g2.rep
    unfold gSubs at o2
    cases ea : ra.d with
    | lst xs =>
      cases eb : rb.d <;> simp only [ea, eb] at o2 <;> first | exact o2.elim | skip
      rename_i i
      rw [ea] at pa
      rw [eb] at pb
      obtain ⟨a', vs, f', e5, h5, r5, z5⟩ := rep_lst pa
      cases e4 : dAt xs i with
      | none =>
        simp only [e4] at o2
        exact o2.elim
      | some d =>
        simp only [e4] at o2
        obtain ⟨v, f, q1, q2, q3⟩ := dAt_vals r5 e4
        exact .inl ⟨a', vs, _, v, e5, rep_int pb, .inl (.inl h5), q1, pick_out ga q2 (fun c hc => by simp [z5, q3 c hc]) o2⟩
    | rol xs =>
      cases eb : rb.d <;> simp only [ea, eb] at o2 <;> first | exact o2.elim | skip
      rename_i i
      rw [eb] at pb
      obtain ⟨a', vs, f', e5, h5, r5, z5⟩ := pa.seqL (xs := xs) (by rw [ea]; rfl)
      cases e4 : dAt xs i with
      | none =>
        simp only [e4] at o2
        exact o2.elim
      | some d =>
        simp only [e4] at o2
        obtain ⟨v, f, q1, q2, q3⟩ := dAt_vals r5 e4
        exact .inl ⟨a', vs, _, v, e5, rep_int pb, h5, q1, pick_out ga q2 (fun c hc => z5 _ (q3 c hc)) o2⟩
    | tup xs =>
      cases eb : rb.d <;> simp only [ea, eb] at o2 <;> first | exact o2.elim | skip
      rename_i i
      rw [eb] at pb
      obtain ⟨a', vs, e5, h5, r5⟩ := pa.seqT (xs := xs) (by rw [ea]; rfl)
      cases e4 : dAt xs i with
      | none =>
        simp only [e4] at o2
        exact o2.elim
      | some d =>
        simp only [e4] at o2
        obtain ⟨v, f, q1, q2, q3⟩ := dAt_vals r5 e4
        exact .inr (.inl ⟨a', vs, _, v, e5, rep_int pb, h5, q1, pick_out ga q2 q3 o2⟩)
    | str z =>
      cases eb : rb.d <;> simp only [ea, eb] at o2 <;> first | exact o2.elim | skip
      rename_i i
      rw [ea] at pa
      rw [eb] at pb
      cases e4 : (ixN z.length i).bind (fun j => z[j]?) with
      | none =>
        simp only [e4] at o2
        exact o2.elim
      | some c =>
        simp only [e4] at o2
        by_cases hl : z.length ≤ 1000000
        · rw [if_pos hl] at o2
          refine .inr (.inr ⟨mkS z, i, c, rep_str pa, rep_int pb, by rw [mkS_len]; exact sizeLine_le hl, ?_, o2.flat mk_str⟩)
          rw [mkS_cps]
          exact e4
        · rw [if_neg hl] at o2
          exact o2.elim
    | dic ks ds => exact absurd ⟨ra, ks, ds, e1, ea⟩ hd
    | _ =>
      cases eb : rb.d <;> simp only [ea, eb] at o2 <;> exact o2.elim
end
end PV

/-! PV6: slices, built-in functions, methods of texts over pure data. -/
namespace PV
open PySem PySem.Spec L2
section
variable {X : Cx} {pins : List (Addr × Obj)} {σ : L2.St} {H : Hp} {s : Shared} {W : WX} {k : Nat}

/-! ### slices -/
def OutO (X : Cx) (W : WX) (H : Hp) (σ : L2.St) (o : Res (Option Int)) (Q : Option Int → Hp → Prop) : Prop := match o with
  | .ok i => ∀ H', Same H H' → Q i H'
  | .exc c => ∀ C H', X.mg (mkS c) = some (.ref C) → Same H H' → W (.ref C) none σ H'
  | .no => False
def tEo (X : Cx) (W : WX) (f : Sto → Res (Option Int)) : TO := fun σ H Q => ∃ E F, RepE (glo X) H E σ F ∧ OutO X W H σ (f E) Q
structure Eo (X : Cx) (W : WX) (e : Option Expr) (f : Sto → Res (Option Int)) : Prop where
  po : PO X e (tEo X W f)
def oNone : Sto → Res (Option Int) := fun _ => .ok none
def oSome (f : Sto → Res Rs) : Sto → Res (Option Int) := fun E => (f E).bind fun r => match r.d with
  | .int i => .ok (some i)
  | _ => .no
theorem eo_none : Eo X W none oNone := ⟨⟨fun pins s σ H Q I ⟨E, F, re, o⟩ => (po_none (X := X)).run pins s σ H Q I (o H (Same.refl H))⟩⟩
theorem eo_some {e : Expr} {f : Sto → Res Rs} (h : Ev X W e f) : Eo X W (some e) (oSome f) := by
  refine ⟨⟨fun pins s σ H Q I ⟨E, F, re, o⟩ => (po_some h.pe).run pins s σ H Q I ?_⟩⟩
  refine ⟨E, F, re, ?_⟩
  unfold oSome at o
  cases e1 : f E with
  | no =>
    rw [e1] at o
    exact o
  | exc c =>
    rw [e1] at o
    exact o
  | ok r =>
    rw [e1] at o
    intro v H1 fp s1 g
    have p := g.rep
    cases ed : r.d <;> simp only [bind_ok, ed] at o <;> first | exact o.elim | skip
    rw [ed] at p
    exact ⟨_, rep_int p, o H1 s1⟩
def cutD {α : Type} (xs : List α) (lo hi : Option Int) : List α := (xs.drop (HT.sIx xs.length 0 lo)).take (HT.sIx xs.length xs.length hi - HT.sIx xs.length 0 lo)
def gSl (r : Rs) (lo hi : Option Int) : Res Rs := match r.d with
  | .lst xs => if xs.length ≤ 1000000 then .ok (rNewL (cutD xs lo hi) r.src) else .no
  | .rol xs => if xs.length ≤ 1000000 then .ok (rNewL (cutD xs lo hi) r.src) else .no
  | .str x => if x.length ≤ 1000000 then .ok (rsF (.str (cutD x lo hi))) else .no
  | _ => .no
def fSl (f : Sto → Res Rs) (lo hi : Sto → Res (Option Int)) : Sto → Res Rs := fun E => (f E).bind fun r => (lo E).bind fun l => (hi E).bind fun h => gSl r l h
theorem cut_reps {G : Glo} {H : Hp} {ds : List Dat} {vs : List V} {fp : List Addr} (r : RepL G H ds vs fp) (lo hi : Option Int) : ∃ f, RepL G H (cutD ds lo hi) (cutV vs lo hi) f ∧ ∀ a ∈ f, a ∈ fp := by
  unfold cutD cutV
  rw [r.len]
  obtain ⟨f1, r1, h1⟩ := r.drop (HT.sIx ds.length 0 lo)
  obtain ⟨f2, r2, h2⟩ := r1.take (HT.sIx ds.length ds.length hi - HT.sIx ds.length 0 lo)
  exact ⟨f2, r2, fun a ha => h1 a (h2 a ha)⟩
theorem cutS_eq (x : Tx) (lo hi : Option Int) : cutS (mkS x) lo hi = mkS (cutD x lo hi) := by
  unfold cutS cutD
  rw [mkS_len, mkS_cps]
  rfl
theorem seqEO {f : Sto → Res (Option Int)} {E : Sto} {F : Fp} {σ : L2.St} {H0 H : Hp} {kk : Option Int → Res Rs} {Q : VK} {Q' : Option Int → Hp → Prop} (re : RepE (glo X) H E σ F) (o : Out X W H0 H F σ ((f E).bind kk) Q)
    (h : ∀ b H1, f E = .ok b → Same H H1 → Out X W H0 H1 F σ (kk b) Q → Q' b H1) : tEo X W f σ H Q' := by
  refine ⟨E, F, re, ?_⟩
  cases e : f E with
  | no =>
    rw [e] at o
    exact o
  | exc c =>
    rw [e] at o
    exact o
  | ok b =>
    intro H1 s1
    rw [e] at o
    exact h b H1 e s1 (Out.mono (show Out X W H0 H F σ (kk b) Q from o) s1)
theorem ev_sl {e : Expr} {lo hi : Option Expr} {p2 pos : Pos} {f : Sto → Res Rs} {fl fh : Sto → Res (Option Int)} (he : Ev X W e f) (hl : Eo X W lo fl) (hh : Eo X W hi fh) : Ev X W (.Subscript e (.Slice lo hi none p2) pos) (fSl f fl fh) := by
  refine ⟨weakE (pe_slice (SlR.or sl_list sl_str) he.pe hl.po hh.po) fun σ H Q ⟨E, F, re, o⟩ => ?_⟩
  refine seqE re (Same.refl H) o fun r x H1 f1 e1 s1 g1 o1 => ?_
  refine seqEO (re.same s1) o1 fun l H2 e2 s2 o2 => ?_
  refine seqEO ((re.same s1).same s2) o2 fun h H3 e3 s3 o3 => ?_
  have s13 := s1.trans (s2.trans s3)
  have g := g1.same (s2.trans s3)
  have p := g.rep
  unfold gSl at o3
  cases ed : r.d with
  | lst xs =>
    simp only [ed] at o3
    rw [ed] at p
    obtain ⟨a, vs, f', ex, hv, rr, z⟩ := rep_lst p
    by_cases hn : xs.length ≤ 1000000
    · rw [if_pos hn] at o3
      obtain ⟨fc, rc, hc⟩ := cut_reps rr l h
      exact .inl ⟨a, vs, ex, .inl (.inl hv), fun q hq => o3 _ _ _ (same_new hq) (Gv.newL s13 rc hq fun c hc' => g.prv.src c (by simp [z, hc c hc']))⟩
    · rw [if_neg hn] at o3
      exact o3.elim
  | rol xs =>
    simp only [ed] at o3
    obtain ⟨a, vs, f', ex, hv, rr, z⟩ := p.seqL (xs := xs) (by rw [ed]; rfl)
    by_cases hn : xs.length ≤ 1000000
    · rw [if_pos hn] at o3
      obtain ⟨fc, rc, hc⟩ := cut_reps rr l h
      exact .inl ⟨a, vs, ex, hv, fun q hq => o3 _ _ _ (same_new hq) (Gv.newL s13 rc hq fun c hc' => g.prv.src c (z c (hc c hc')))⟩
    · rw [if_neg hn] at o3
      exact o3.elim
  | str z =>
    simp only [ed] at o3
    rw [ed] at p
    by_cases hn : z.length ≤ 1000000
    · rw [if_pos hn] at o3
      refine .inr ⟨mkS z, rep_str p, by rw [mkS_len]; exact sizeLine_le hn, ?_⟩
      rw [cutS_eq]
      exact o3.flat mk_str
    · rw [if_neg hn] at o3
      exact o3.elim
  | _ =>
    simp only [ed] at o3
    exact o3.elim
def gRev (r : Rs) : Res Rs := match r.d with
  | .lst xs => .ok (rNewL xs.reverse r.src)
  | .rol xs => .ok (rNewL xs.reverse r.src)
  | _ => .no
def fOne (g : Rs → Res Rs) (f : Sto → Res Rs) : Sto → Res Rs := fun E => (f E).bind g
theorem ev_rev {e : Expr} {kk : Nat} {p1 p2 p3 pos : Pos} {f : Sto → Res Rs} (he : Ev X W e f) : Ev X W (.Subscript e (.Slice none none (some (.UnaryOp .USub (.Constant (.int 1) kk p1) p2)) p3) pos) (fOne gRev f) := by
  refine ⟨weakE (pe_revL he.pe) fun σ H Q ⟨E, F, re, o⟩ => ?_⟩
  refine seqE re (Same.refl H) o fun r x H1 f1 e1 s1 g o1 => ?_
  have p := g.rep
  unfold gRev at o1
  have fin : ∀ (xs : List Dat) (a : Addr) (vs : List V) (f' : List Addr), x = .ref a → SqL X.K H1 a vs → RepL (glo X) H1 xs vs f' → (∀ b ∈ f', b ∈ f1) → Out X W H H1 F σ (.ok (rNewL xs.reverse r.src)) Q → ∃ a xs, x = .ref a ∧ SqL X.K H1 a xs ∧ ∀ p, H1 p = none → Q (.ref p) (upd H1 p (.lst xs.reverse)) := by
    intro xs a vs f' ex hv rr hz o2
    obtain ⟨fr, r2, pr⟩ := rr.rev
    exact ⟨a, vs, ex, hv, fun q hq => o2 _ _ _ (same_new hq) (Gv.newL s1 r2 hq fun c hc => g.prv.src c (hz c (pr.mem_iff.mp hc)))⟩
  cases ed : r.d with
  | lst xs =>
    simp only [ed] at o1
    obtain ⟨a, vs, f', ex, hv, rr, z⟩ := p.seqL (xs := xs) (by rw [ed]; rfl)
    exact fin xs a vs f' ex hv rr z o1
  | rol xs =>
    simp only [ed] at o1
    obtain ⟨a, vs, f', ex, hv, rr, z⟩ := p.seqL (xs := xs) (by rw [ed]; rfl)
    exact fin xs a vs f' ex hv rr z o1
  | _ =>
    simp only [ed] at o1
    exact o1.elim

/-! ### built-in functions of one argument -/
def FnS (X : Cx) (r : List V → Hp → VK → Prop) (g : Rs → Res Rs) : Prop := ∀ (W : WX) (H0 H : Hp) (F : Fp) (σ : L2.St) (ra : Rs) (x : V) (fa : List Addr) (Q : VK),
  Same H0 H → (∀ i, ∀ a ∈ F i, H0 a ≠ none) → Gv (glo X) H0 F ra x H fa → Out X W H0 H F σ (g ra) Q → r [x] H Q
theorem one_arg {e : Expr} {f : Sto → Res Rs} {r : List V → Hp → VK → Prop} {g : Rs → Res Rs} (hg : FnS X r g) {σ : L2.St} {H : Hp} {Q : VK} (h : tEv X W (fOne g f) σ H Q) : tCB r (tCons (tEv X W f) tNil) σ H Q := by
  obtain ⟨E, F, re, o⟩ := h
  refine seqE re (Same.refl H) o fun ra x H1 f1 e1 s1 g1 o1 => ?_
  exact hg W H H1 F σ ra x f1 Q s1 (fun i => re.trk i) g1 o1
theorem ev_fn1 {id : String} {x : Str} {p pos : Pos} {e : Expr} {f : Sto → Res Rs} {r : List V → Hp → VK → Prop} {g : Rs → Res Rs} (hc : CallR X (.builtin id) r) (hg : FnS X r g) (hgl : Gl X x) (hm : X.mg x = none) (hv : bootBuiltins x = some (.builtin id)) (he : Ev X W e f)
    (hn : x ≠ "__name__" := by decide) (hdb : (x == ("__debug__" : Str)) = false := by decide) (hs : starEach [e] X.env = (false, eval e X.env) :: starEach [] X.env := by rfl) : Ev X W (.Call (.Name x p) [e] [] pos) (fOne g f) :=
  ⟨weakE (pe_callB hc hgl hm hv (pa_cons he.pe pa_nil hs) hn hdb hs) fun σ H Q h => one_arg (e := e) hg h⟩
theorem ev_ty1 {T : String} {x : Str} {p pos : Pos} {e : Expr} {f : Sto → Res Rs} {r : List V → Hp → VK → Prop} {g : Rs → Res Rs} (hc : CallR X (.type T) r) (hg : FnS X r g) (hgl : Gl X x) (hm : X.mg x = none) (hv : bootBuiltins x = some (.type T)) (he : Ev X W e f)
    (hn : x ≠ "__name__" := by decide) (hdb : (x == ("__debug__" : Str)) = false := by decide) (hs : starEach [e] X.env = (false, eval e X.env) :: starEach [] X.env := by rfl) : Ev X W (.Call (.Name x p) [e] [] pos) (fOne g f) :=
  ⟨weakE (pe_callTy hc hgl hm hv (pa_cons he.pe pa_nil hs) hn hdb hs) fun σ H Q h => one_arg (e := e) hg h⟩
/-! len -/
def gLen (r : Rs) : Res Rs := match r.d with
  | .lst xs => .ok (rsF (.int xs.length))
  | .rol xs => .ok (rsF (.int xs.length))
  | .tup xs => .ok (rsF (.int xs.length))
  | .str x => if x.length ≤ 1000000 then .ok (rsF (.int x.length)) else .no
  | .dic ks _ => .ok (rsF (.int ks.length))
  | _ => .no
theorem call_lenR : CallR X (.builtin "len") (fun xs H Q => ∃ a kvs, xs = [V.ref a] ∧ Rd H a (.dK kvs) ∧ Q (.int kvs.length) H) := by
  intro pins s σ H xs us Q I r h
  obtain ⟨a, kvs, rfl, ha, q⟩ := h
  obtain ⟨u, rfl, ru⟩ := vals1 r
  cases ru
  exact d_len I ha fun t s' I' => ⟨.int kvs.length, H, I', ⟨t, rfl⟩, q⟩
abbrev rLenA (X : Cx) : List V → Hp → VK → Prop := fun xs H Q => (∃ x n, xs = [x] ∧ LenV X.K x H n ∧ Q (.int n) H) ∨ (∃ a kvs, xs = [V.ref a] ∧ Rd H a (.dK kvs) ∧ Q (.int kvs.length) H)
theorem call_lenA : CallR X (.builtin "len") (rLenA X) := CallR.or call_len call_lenR
theorem fns_len : FnS X (rLenA X) gLen := by
  intro W H0 H F σ ra x fa Q s0 tr g o
  have p := g.rep
  unfold gLen at o
  cases ed : ra.d with
  | lst xs =>
    simp only [ed] at o
    obtain ⟨a, vs, f', ex, hv, rr, z⟩ := p.seqL (xs := xs) (by rw [ed]; rfl)
    subst ex
    exact .inl ⟨_, xs.length, rfl, .inl ⟨vs, hv, rr.len.symm⟩, o.flat mk_int⟩
  | rol xs =>
    simp only [ed] at o
    obtain ⟨a, vs, f', ex, hv, rr, z⟩ := p.seqL (xs := xs) (by rw [ed]; rfl)
    subst ex
    exact .inl ⟨_, xs.length, rfl, .inl ⟨vs, hv, rr.len.symm⟩, o.flat mk_int⟩
  | tup xs =>
    simp only [ed] at o
    obtain ⟨a, vs, ex, hv, rr⟩ := p.seqT (xs := xs) (by rw [ed]; rfl)
    subst ex
    exact .inl ⟨_, xs.length, rfl, .inr ⟨vs, hv, rr.len.symm⟩, o.flat mk_int⟩
  | str z =>
    simp only [ed] at o
    rw [ed] at p
    by_cases h : z.length ≤ 1000000
    · rw [if_pos h] at o
      rw [rep_str p]
      exact .inl ⟨_, z.length, rfl, ⟨by rw [mkS_len]; exact sizeLine_le h, (mkS_len z).symm⟩, o.flat mk_int⟩
    · rw [if_neg h] at o
      exact o.elim
  | dic ks ds =>
    simp only [ed] at o
    rw [ed] at p
    simp only [Rep] at p
    obtain ⟨a, vs, f, ex, hd, l, r, _⟩ := p
    subst ex
    refine .inr ⟨a, _, rfl, hd, ?_⟩
    rw [kvOf_len l]
    exact o.flat mk_int
  | _ =>
    simp only [ed] at o
    exact o.elim
theorem ev_len {p pos : Pos} {e : Expr} {f : Sto → Res Rs} (hm : X.mg "len" = none) (he : Ev X W e f) (hgl : Gl X "len" := by rfl) (hs : starEach [e] X.env = (false, eval e X.env) :: starEach [] X.env := by rfl) : Ev X W (.Call (.Name "len" p) [e] [] pos) (fOne gLen f) :=
  ev_fn1 call_lenA fns_len hgl hm PySem.boot_len he (by decide) (by decide) hs
/-! sum, abs, all, any -/
def intsOf : List Dat → Option (List Int)
  | [] => some []
  | .int i :: r => (intsOf r).map fun l => i :: l
  | _ :: _ => none
def blsOf : List Dat → Option (List Bool)
  | [] => some []
  | .bl i :: r => (blsOf r).map fun l => i :: l
  | _ :: _ => none
def strsOf : List Dat → Option (List Tx)
  | [] => some []
  | .str i :: r => (strsOf r).map fun l => i :: l
  | _ :: _ => none
theorem intsOf_reps {G : Glo} {H : Hp} : ∀ {ds : List Dat} {vs : List V} {fp : List Addr} {ns : List Int}, RepL G H ds vs fp → intsOf ds = some ns → vs = ns.map V.int ∧ fp = []
  | [], vs, fp, ns, r, e => by
    simp only [RepL] at r
    simp only [intsOf] at e
    cases e
    exact r
  | d :: ds, vs, fp, ns, r, e => by
    simp only [RepL] at r
    obtain ⟨v, vs', f, f', e1, e2, r1, rr⟩ := r
    cases d <;> simp only [intsOf] at e <;> first | cases e | skip
    rename_i i
    cases e3 : intsOf ds with
    | none =>
      rw [e3] at e
      cases e
    | some l =>
      rw [e3] at e
      have e : some (i :: l) = some ns := e
      injection e with e
      subst e
      obtain ⟨q1, q2⟩ := intsOf_reps rr e3
      simp only [Rep] at r1
      rw [e1, e2, q1, q2, r1.1, r1.2]
      exact ⟨rfl, rfl⟩
theorem blsOf_reps {G : Glo} {H : Hp} : ∀ {ds : List Dat} {vs : List V} {fp : List Addr} {ns : List Bool}, RepL G H ds vs fp → blsOf ds = some ns → vs = ns.map V.bl ∧ fp = []
  | [], vs, fp, ns, r, e => by
    simp only [RepL] at r
    simp only [blsOf] at e
    cases e
    exact r
  | d :: ds, vs, fp, ns, r, e => by
    simp only [RepL] at r
    obtain ⟨v, vs', f, f', e1, e2, r1, rr⟩ := r
    cases d <;> simp only [blsOf] at e <;> first | cases e | skip
    rename_i i
    cases e3 : blsOf ds with
    | none =>
      rw [e3] at e
      cases e
    | some l =>
      rw [e3] at e
      have e : some (i :: l) = some ns := e
      injection e with e
      subst e
      obtain ⟨q1, q2⟩ := blsOf_reps rr e3
      simp only [Rep] at r1
      rw [e1, e2, q1, q2, r1.1, r1.2]
      exact ⟨rfl, rfl⟩
theorem strsOf_reps {G : Glo} {H : Hp} : ∀ {ds : List Dat} {vs : List V} {fp : List Addr} {ns : List Tx}, RepL G H ds vs fp → strsOf ds = some ns → vs = (ns.map mkS).map V.str ∧ fp = []
  | [], vs, fp, ns, r, e => by
    simp only [RepL] at r
    simp only [strsOf] at e
    cases e
    exact r
  | d :: ds, vs, fp, ns, r, e => by
    simp only [RepL] at r
    obtain ⟨v, vs', f, f', e1, e2, r1, rr⟩ := r
    cases d <;> simp only [strsOf] at e <;> first | cases e | skip
    rename_i i
    cases e3 : strsOf ds with
    | none =>
      rw [e3] at e
      cases e
    | some l =>
      rw [e3] at e
      have e : some (i :: l) = some ns := e
      injection e with e
      subst e
      obtain ⟨q1, q2⟩ := strsOf_reps rr e3
      simp only [Rep] at r1
      rw [e1, e2, q1, q2, r1.1, r1.2]
      exact ⟨rfl, rfl⟩
theorem strs_reps {G : Glo} {H : Hp} : ∀ ns : List Tx, RepL G H (ns.map Dat.str) ((ns.map mkS).map V.str) []
  | [] => RepL.nil
  | n :: ns => RepL.cons (f := []) (f' := []) (by simp [Rep]) (strs_reps ns)
theorem ints_reps {G : Glo} {H : Hp} : ∀ ns : List Int, RepL G H (ns.map Dat.int) (ns.map V.int) []
  | [] => RepL.nil
  | n :: ns => RepL.cons (f := []) (f' := []) (by simp [Rep]) (ints_reps ns)
/-- the items of a list or a tuple -/
def seqOf : Dat → Option (List Dat)
  | .lst xs => some xs
  | .rol xs => some xs
  | _ => none
theorem seqOf_vw {d : Dat} {xs : List Dat} (h : seqOf d = some xs) : vw d = .seq false xs := by
  cases d <;> simp only [seqOf] at h <;> cases h <;> rfl
def gSum (r : Rs) : Res Rs := match (seqOf r.d).bind intsOf with
  | some ns => .ok (rsF (.int ns.sum))
  | none => .no
theorem fns_sum : FnS X (rSum X.K) gSum := by
  intro W H0 H F σ ra x fa Q s0 tr g o
  unfold gSum at o
  cases e1 : seqOf ra.d with
  | none =>
    rw [e1] at o
    exact o.elim
  | some xs =>
    obtain ⟨a, vs, f', ex, hv, rr, z⟩ := g.rep.seqL (seqOf_vw e1)
    rw [e1] at o
    cases e2 : intsOf xs with
    | none =>
      simp only [Option.bind_some, e2] at o
      exact o.elim
    | some ns =>
      simp only [Option.bind_some, e2] at o
      obtain ⟨q1, _⟩ := intsOf_reps rr e2
      subst ex
      rw [q1] at hv
      exact ⟨a, ns, rfl, hv, o.flat mk_int⟩
theorem ev_sum (C : XOk k X) {p pos : Pos} {e : Expr} {f : Sto → Res Rs} (hm : X.mg "sum" = none) (he : Ev X W e f) (hgl : Gl X "sum" := by rfl) (hs : starEach [e] X.env = (false, eval e X.env) :: starEach [] X.env := by rfl) : Ev X W (.Call (.Name "sum" p) [e] [] pos) (fOne gSum f) :=
  ev_fn1 (cr_sum C.calm) fns_sum hgl hm (by decide +kernel) he (by decide) (by decide) hs
def gAll (r : Rs) : Res Rs := match (seqOf r.d).bind blsOf with
  | some bs => .ok (rsF (.bl (bs.all id)))
  | none => .no
def gAny (r : Rs) : Res Rs := match (seqOf r.d).bind blsOf with
  | some bs => .ok (rsF (.bl (bs.any id)))
  | none => .no
theorem fns_all : FnS X (rAll X.K) gAll := by
  intro W H0 H F σ ra x fa Q s0 tr g o
  unfold gAll at o
  cases e1 : seqOf ra.d with
  | none =>
    rw [e1] at o
    exact o.elim
  | some xs =>
    obtain ⟨a, vs, f', ex, hv, rr, z⟩ := g.rep.seqL (seqOf_vw e1)
    rw [e1] at o
    cases e2 : blsOf xs with
    | none =>
      simp only [Option.bind_some, e2] at o
      exact o.elim
    | some ns =>
      simp only [Option.bind_some, e2] at o
      obtain ⟨q1, _⟩ := blsOf_reps rr e2
      subst ex
      rw [q1] at hv
      exact ⟨a, ns, rfl, hv, o.flat mk_bl⟩
theorem fns_any : FnS X (rAny X.K) gAny := by
  intro W H0 H F σ ra x fa Q s0 tr g o
  unfold gAny at o
  cases e1 : seqOf ra.d with
  | none =>
    rw [e1] at o
    exact o.elim
  | some xs =>
    obtain ⟨a, vs, f', ex, hv, rr, z⟩ := g.rep.seqL (seqOf_vw e1)
    rw [e1] at o
    cases e2 : blsOf xs with
    | none =>
      simp only [Option.bind_some, e2] at o
      exact o.elim
    | some ns =>
      simp only [Option.bind_some, e2] at o
      obtain ⟨q1, _⟩ := blsOf_reps rr e2
      subst ex
      rw [q1] at hv
      exact ⟨a, ns, rfl, hv, o.flat mk_bl⟩
theorem ev_all (C : XOk k X) {p pos : Pos} {e : Expr} {f : Sto → Res Rs} (hm : X.mg "all" = none) (he : Ev X W e f) (hgl : Gl X "all" := by rfl) (hs : starEach [e] X.env = (false, eval e X.env) :: starEach [] X.env := by rfl) : Ev X W (.Call (.Name "all" p) [e] [] pos) (fOne gAll f) :=
  ev_fn1 (cr_all C.calm) fns_all hgl hm (by decide +kernel) he (by decide) (by decide) hs
theorem ev_any (C : XOk k X) {p pos : Pos} {e : Expr} {f : Sto → Res Rs} (hm : X.mg "any" = none) (he : Ev X W e f) (hgl : Gl X "any" := by rfl) (hs : starEach [e] X.env = (false, eval e X.env) :: starEach [] X.env := by rfl) : Ev X W (.Call (.Name "any" p) [e] [] pos) (fOne gAny f) :=
  ev_fn1 (cr_any C.calm) fns_any hgl hm (by decide +kernel) he (by decide) (by decide) hs
def gAbs (r : Rs) : Res Rs := match r.d with
  | .int i => .ok (rsF (.int (if i < 0 then -i else i)))
  | _ => .no
theorem fns_abs : FnS X (fun xs H Q => ∃ i, xs = [.int i] ∧ Q (.int (if i < 0 then -i else i)) H) gAbs := by
  intro W H0 H F σ ra x fa Q s0 tr g o
  have p := g.rep
  unfold gAbs at o
  cases ed : ra.d <;> simp only [ed] at o <;> first | exact o.elim | skip
  rw [ed] at p
  rw [rep_int p]
  exact ⟨_, rfl, o.flat mk_int⟩
theorem ev_abs {p pos : Pos} {e : Expr} {f : Sto → Res Rs} (hm : X.mg "abs" = none) (he : Ev X W e f) (hgl : Gl X "abs" := by rfl) (hs : starEach [e] X.env = (false, eval e X.env) :: starEach [] X.env := by rfl) : Ev X W (.Call (.Name "abs" p) [e] [] pos) (fOne gAbs f) :=
  ev_fn1 call_abs fns_abs hgl hm (by decide +kernel) he (by decide) (by decide) hs
/-! list(..) of a list, a tuple, a dict -/
def gList (r : Rs) : Res Rs := match r.d with
  | .lst xs => .ok (rNewL xs r.src)
  | .rol xs => .ok (rNewL xs r.src)
  | .tup xs => .ok (rNewL xs r.src)
  | .dic ks _ => .ok (rNewL (ks.map Dat.str) [])
  | _ => .no
abbrev rListA (X : Cx) : List V → Hp → VK → Prop := fun xs H Q => (∃ p ys, xs = [.ref p] ∧ (SqL X.K H p ys ∨ SqT X.K H p ys) ∧ ∀ l, H l = none → Q (.ref l) (upd H l (.lst ys))) ∨
  (∃ (a : Addr) (kvs : List (Key × V)), xs = [.ref a] ∧ Rd H a (.dK kvs) ∧ ∀ p, H p = none → Q (.ref p) (upd H p (.lst (kvs.map fun kv => kV kv.1))))
theorem call_listA (C : XOk k X) : CallR X (.type "list") (rListA X) := CallR.or call_list_of (call_listD C.calm)
theorem kv_keys : ∀ {ks : List Tx} {vs : List V}, ks.length = vs.length → (kvOf ks vs).map (fun kv => kV kv.1) = (ks.map mkS).map V.str
  | [], [], _ => rfl
  | [], _ :: _, h => by simp at h
  | _ :: _, [], h => by simp at h
  | k :: ks, v :: vs, h => by
    show V.str (mkS k) :: (kvOf ks vs).map _ = _
    rw [kv_keys (by simpa using h)]
    rfl
theorem fns_list : FnS X (rListA X) gList := by
  intro W H0 H F σ ra x fa Q s0 tr g o
  have p := g.rep
  unfold gList at o
  cases ed : ra.d with
  | lst xs =>
    simp only [ed] at o
    obtain ⟨a, vs, f', ex, hv, rr, z⟩ := p.seqL (xs := xs) (by rw [ed]; rfl)
    subst ex
    exact .inl ⟨a, vs, rfl, .inl hv, fun q hq => o _ _ _ (same_new hq) (Gv.newL s0 rr hq fun c hc => g.prv.src c (z c hc))⟩
  | rol xs =>
    simp only [ed] at o
    obtain ⟨a, vs, f', ex, hv, rr, z⟩ := p.seqL (xs := xs) (by rw [ed]; rfl)
    subst ex
    exact .inl ⟨a, vs, rfl, .inl hv, fun q hq => o _ _ _ (same_new hq) (Gv.newL s0 rr hq fun c hc => g.prv.src c (z c hc))⟩
  | tup xs =>
    simp only [ed] at o
    obtain ⟨a, vs, ex, hv, rr⟩ := p.seqT (xs := xs) (by rw [ed]; rfl)
    subst ex
    exact .inl ⟨a, vs, rfl, .inr hv, fun q hq => o _ _ _ (same_new hq) (Gv.newL s0 rr hq fun c hc => g.prv.src c hc)⟩
  | dic ks ds =>
    simp only [ed] at o
    rw [ed] at p
    simp only [Rep] at p
    obtain ⟨a, vs, f, ex, hd, l, r, _⟩ := p
    subst ex
    refine .inr ⟨a, _, rfl, hd, fun q hq => ?_⟩
    rw [kv_keys l]
    exact o _ _ _ (same_new hq) (Gv.newL s0 (strs_reps ks) hq (fun _ z => nomatch z))
  | _ =>
    simp only [ed] at o
    exact o.elim
theorem ev_list (C : XOk k X) {p pos : Pos} {e : Expr} {f : Sto → Res Rs} (hm : X.mg "list" = none) (he : Ev X W e f) (hgl : Gl X "list" := by rfl) (hs : starEach [e] X.env = (false, eval e X.env) :: starEach [] X.env := by rfl) : Ev X W (.Call (.Name "list" p) [e] [] pos) (fOne gList f) :=
  ev_ty1 (call_listA C) fns_list hgl hm (by decide +kernel) he (by decide) (by decide) hs
end
end PV

/-! PV7: methods of texts over pure data. -/
namespace PV
open PySem PySem.Spec L2
/-! ### texts as lists of signs -/
def stripL (p : Nat → Bool) (x : Tx) : Tx := ((x.dropWhile p).reverse.dropWhile p).reverse
theorem tw_drop (p : Nat → Bool) : ∀ x : Tx, x.drop (x.takeWhile p).length = x.dropWhile p
  | [] => rfl
  | a :: x => by
    by_cases h : p a = true
    · rw [List.takeWhile_cons_of_pos h, List.dropWhile_cons_of_pos h, List.length_cons, List.drop_succ_cons]
      exact tw_drop p x
    · rw [List.takeWhile_cons_of_neg h, List.dropWhile_cons_of_neg h]
      rfl
theorem rev_cut (p : Nat → Bool) (y : Tx) : y.take (y.length - (y.reverse.takeWhile p).length) = (y.reverse.dropWhile p).reverse := by
  rw [← tw_drop p y.reverse, List.reverse_drop, List.reverse_reverse, List.length_reverse]
theorem stripBy_tl (p : Nat → Bool) (x : Tx) : Txt.stripBy p true true (mkS x) = mkS (stripL p x) := by
  rw [PyProof.Rows.stripBy_eq]
  apply TL.ext_tl
  rw [TL.tl_strSub]
  show ((x.drop (stripLo p true (mkS x))).take _) = stripL p x
  have e1 : stripLo p true (mkS x) = (x.takeWhile p).length := rfl
  have e2 : stripHi p true (mkS x) (stripLo p true (mkS x)) = x.length - ((x.drop (x.takeWhile p).length).reverse.takeWhile p).length := by
    unfold stripHi
    rw [if_pos rfl, mkS_len]
    rfl
  rw [e2, e1]
  unfold stripL
  rw [← rev_cut p (x.dropWhile p), ← tw_drop p x]
  congr 1
  have l1 : (x.drop (x.takeWhile p).length).length = x.length - (x.takeWhile p).length := List.length_drop
  rw [l1]
  omega
theorem lstrip_tl (p : Nat → Bool) (x : Tx) : Txt.stripBy p true false (mkS x) = mkS (x.dropWhile p) := by
  rw [PyProof.Rows.stripBy_eq]
  apply TL.ext_tl
  rw [TL.tl_strSub]
  show ((x.drop (stripLo p true (mkS x))).take _) = x.dropWhile p
  have e1 : stripLo p true (mkS x) = (x.takeWhile p).length := rfl
  have e2 : stripHi p false (mkS x) (stripLo p true (mkS x)) = x.length := by
    unfold stripHi
    rw [if_neg Bool.false_ne_true, mkS_len]
  rw [e2, e1, tw_drop, List.take_of_length_le]
  rw [← tw_drop]
  rw [List.length_drop]
  exact Nat.le_refl _
theorem contains_tl (y : Tx) : (mkS y).cps.contains = fun c => y.contains c := by
  funext c
  show y.toArray.contains c = _
  simp
theorem startswith_tl (x y : Tx) : Txt.startswith (mkS x) (mkS y) = (x.take y.length == y) := by
  unfold Txt.startswith
  rw [StrLaws.subAt_eq, mkS_len, mkS_len, mkS_cps, mkS_cps, List.drop_zero]
  by_cases h : 0 + y.length ≤ x.length
  · rw [decide_eq_true h, Bool.true_and]
  · rw [decide_eq_false h, Bool.false_and]
    symm
    rw [beq_eq_false_iff_ne]
    intro e
    have := congrArg List.length e
    rw [List.length_take] at this
    omega
/-- cut at each y -/
def splitL (y x : Tx) : List Tx := TL.spl y 0 [] x
theorem split_tl {x y : Tx} (hy : y ≠ []) (h : y.all (· < 256) = true) : Txt.split (mkS x) (mkS y) = (splitL y x).map mkS := by
  apply TL.map_tl_inj
  rw [TL.split_spl _ _ hy (TL.kind_ok (by simpa [mkS] using h)), List.map_map]
  have : (TL.tl ∘ mkS) = id := funext fun _ => rfl
  rw [this, List.map_id]
  rfl
def joinT (y : Tx) (ps : List Tx) : Tx := TL.joinL y ps
theorem join_tl (y : Tx) (ps : List Tx) : Txt.join (mkS y) (ps.map mkS) = mkS (joinT y ps) := by
  rw [TL.join_eq]
  apply TL.ext_tl
  rw [TL.tl_join, List.map_map]
  have : (TL.tl ∘ mkS) = id := funext fun _ => rfl
  rw [this, List.map_id]
  rfl
section
variable {X : Cx} {pins : List (Addr × Obj)} {σ : L2.St} {H : Hp} {s : Shared} {W : WX} {k : Nat}
/-- a text's method of one argument -/
def MtS1 (X : Cx) (r : V → List V → Hp → VK → Prop) (g : Tx → Rs → Res Rs) : Prop := ∀ (W : WX) (H0 H : Hp) (F : Fp) (σ : L2.St) (a : Tx) (rb : Rs) (y : V) (fb : List Addr) (Q : VK),
  Same H0 H → (∀ i, ∀ c ∈ F i, H0 c ≠ none) → Gv (glo X) H0 F rb y H fb → Out X W H0 H F σ (g a rb) Q → r (.str (mkS a)) [y] H Q
def fM1 (g : Tx → Rs → Res Rs) (fo f : Sto → Res Rs) : Sto → Res Rs := fun E => (fo E).bind fun ra => match ra.d with
  | .str a => (f E).bind fun rb => g a rb
  | _ => .no
theorem ev_m1 {id : String} {name : Str} {apos pos : Pos} {o e : Expr} {f fo : Sto → Res Rs} {r : V → List V → Hp → VK → Prop} {g : Tx → Rs → Res Rs} (slot : Slot "str" name id) (ty : typeOf (.builtin id) = pure (.type "method_descriptor")) (rule : MtR X id r) (hg : MtS1 X r g)
    (ho : Ev X W o fo) (he : Ev X W e f) (hs : starEach [e] X.env = [(false, eval e X.env)]) (hbase : attributeBase o name X.env (eval o X.env) = eval o X.env) (hline : (apos.endLine == pos.line) = true) : Ev X W (.Call (.Attribute o name apos) [e] [] pos) (fM1 g fo f) := by
  refine ⟨weakE (pe_m1 slot ty rule ho.pe he.pe hs hbase hline) fun σ H Q ⟨E, F, re, oo⟩ => ?_⟩
  refine seqE re (Same.refl H) oo fun ra x H1 f1 e1 s1 g1 o1 => ?_
  have p := g1.rep
  cases ed : ra.d with
  | str a =>
    simp only [ed] at o1
    rw [ed] at p
    refine ⟨⟨_, rep_str p⟩, ?_⟩
    refine seqE (re.same s1) s1 o1 fun rb y H2 f2 e2 s2 g2 o2 => ?_
    rw [rep_str p]
    exact hg W H H2 F σ a rb y f2 Q (s1.trans s2) (fun i => re.trk i) g2 o2
  | _ =>
    simp only [ed] at o1
    exact o1.elim
def gStartsW (a : Tx) (rb : Rs) : Res Rs := match rb.d with
  | .str b => .ok (rsF (.bl (a.take b.length == b)))
  | _ => .no
theorem mts_startsw : MtS1 X (fun x xs H Q => ∃ a b, x = .str a ∧ xs = [.str b] ∧ Q (.bl (Txt.startswith a b)) H) gStartsW := by
  intro W H0 H F σ a rb y fb Q s0 tr g o
  have p := g.rep
  unfold gStartsW at o
  cases ed : rb.d <;> simp only [ed] at o <;> first | exact o.elim | skip
  rw [ed] at p
  refine ⟨_, _, rfl, by rw [rep_str p], ?_⟩
  rw [startswith_tl]
  exact o.flat mk_bl
theorem ev_startsw {apos pos : Pos} {o e : Expr} {f fo : Sto → Res Rs} (ho : Ev X W o fo) (he : Ev X W e f) (hs : starEach [e] X.env = [(false, eval e X.env)] := by rfl) (hbase : attributeBase o "startswith" X.env (eval o X.env) = eval o X.env := by rfl) (hline : (apos.endLine == pos.line) = true := by rfl) : Ev X W (.Call (.Attribute o "startswith" apos) [e] [] pos) (fM1 gStartsW fo f) :=
  ev_m1 PySem.F.slot_str_startswith PySem.F.type_str_startswith mt_startswith mts_startsw ho he hs hbase hline
def gStrip (a : Tx) (rb : Rs) : Res Rs := match rb.d with
  | .str b => if a.length ≤ 1000000 then .ok (rsF (.str (stripL (fun c => b.contains c) a))) else .no
  | _ => .no
def gLstrip (a : Tx) (rb : Rs) : Res Rs := match rb.d with
  | .str b => if a.length ≤ 1000000 then .ok (rsF (.str (a.dropWhile (fun c => b.contains c)))) else .no
  | _ => .no
theorem mts_strip : MtS1 X (fun x xs H Q => ∃ a b, x = .str a ∧ xs = [.str b] ∧ a.length ≤ sizeLine ∧ Q (.str (Txt.stripChars a b)) H) gStrip := by
  intro W H0 H F σ a rb y fb Q s0 tr g o
  have p := g.rep
  unfold gStrip at o
  cases ed : rb.d <;> simp only [ed] at o <;> first | exact o.elim | skip
  rw [ed] at p
  by_cases h : a.length ≤ 1000000
  · rw [if_pos h] at o
    refine ⟨_, _, rfl, by rw [rep_str p], by rw [mkS_len]; exact sizeLine_le h, ?_⟩
    unfold Txt.stripChars
    rw [contains_tl, stripBy_tl]
    exact o.flat mk_str
  · rw [if_neg h] at o
    exact o.elim
theorem mts_lstrip : MtS1 X (fun x xs H Q => ∃ a b, x = .str a ∧ xs = [.str b] ∧ a.length ≤ sizeLine ∧ Q (.str (Txt.lstripChars a b)) H) gLstrip := by
  intro W H0 H F σ a rb y fb Q s0 tr g o
  have p := g.rep
  unfold gLstrip at o
  cases ed : rb.d <;> simp only [ed] at o <;> first | exact o.elim | skip
  rw [ed] at p
  by_cases h : a.length ≤ 1000000
  · rw [if_pos h] at o
    refine ⟨_, _, rfl, by rw [rep_str p], by rw [mkS_len]; exact sizeLine_le h, ?_⟩
    unfold Txt.lstripChars
    rw [contains_tl, lstrip_tl]
    exact o.flat mk_str
  · rw [if_neg h] at o
    exact o.elim
theorem ev_strip {apos pos : Pos} {o e : Expr} {f fo : Sto → Res Rs} (ho : Ev X W o fo) (he : Ev X W e f) (hs : starEach [e] X.env = [(false, eval e X.env)] := by rfl) (hbase : attributeBase o "strip" X.env (eval o X.env) = eval o X.env := by rfl) (hline : (apos.endLine == pos.line) = true := by rfl) : Ev X W (.Call (.Attribute o "strip" apos) [e] [] pos) (fM1 gStrip fo f) :=
  ev_m1 PySem.F.slot_str_strip PySem.F.type_str_strip mt_stripChars mts_strip ho he hs hbase hline
theorem ev_lstrip {apos pos : Pos} {o e : Expr} {f fo : Sto → Res Rs} (ho : Ev X W o fo) (he : Ev X W e f) (hs : starEach [e] X.env = [(false, eval e X.env)] := by rfl) (hbase : attributeBase o "lstrip" X.env (eval o X.env) = eval o X.env := by rfl) (hline : (apos.endLine == pos.line) = true := by rfl) : Ev X W (.Call (.Attribute o "lstrip" apos) [e] [] pos) (fM1 gLstrip fo f) :=
  ev_m1 PySem.F.slot_str_lstrip PySem.F.type_str_lstrip mt_lstripChars mts_lstrip ho he hs hbase hline
def gSplit (a : Tx) (rb : Rs) : Res Rs := match rb.d with
  | .str b => if b ≠ [] ∧ b.all (· < 256) = true ∧ a.length ≤ 1000000 then .ok (rNewL ((splitL b a).map Dat.str) []) else .no
  | _ => .no
theorem mts_split : MtS1 X (fun x xs H Q => ∃ a b, x = .str a ∧ xs = [.str b] ∧ (b.length == 0) = false ∧ a.length + 2 ≤ sizeLine ∧ rNewStrs (Txt.split a b) H Q) gSplit := by
  intro W H0 H F σ a rb y fb Q s0 tr g o
  have p := g.rep
  unfold gSplit at o
  cases ed : rb.d <;> simp only [ed] at o <;> first | exact o.elim | skip
  rename_i b
  rw [ed] at p
  by_cases h : b ≠ [] ∧ b.all (· < 256) = true ∧ a.length ≤ 1000000
  · rw [if_pos h] at o
    have e16 : sizeLine = 16777216 := by decide
    refine ⟨_, _, rfl, by rw [rep_str p], ?_, by rw [mkS_len, e16]; have := h.2.2; omega, fun q hq => ?_⟩
    · rw [mkS_len]
      cases b with
      | nil => exact absurd rfl h.1
      | cons c b => rfl
    · rw [split_tl h.1 h.2.1]
      exact o _ _ _ (same_new hq) (Gv.newL s0 (strs_reps _) hq (fun _ z => nomatch z))
  · rw [if_neg h] at o
    exact o.elim
theorem ev_split {apos pos : Pos} {o e : Expr} {f fo : Sto → Res Rs} (ho : Ev X W o fo) (he : Ev X W e f) (hs : starEach [e] X.env = [(false, eval e X.env)] := by rfl) (hbase : attributeBase o "split" X.env (eval o X.env) = eval o X.env := by rfl) (hline : (apos.endLine == pos.line) = true := by rfl) : Ev X W (.Call (.Attribute o "split" apos) [e] [] pos) (fM1 gSplit fo f) :=
  ev_m1 PySem.F.slot_str_split PySem.F.type_str_split mt_split mts_split ho he hs hbase hline
def gJoin (a : Tx) (rb : Rs) : Res Rs := match (seqOf rb.d).bind strsOf with
  | some ys => if (ys.map (·.length)).sum + ys.length * a.length ≤ 1000000 then .ok (rsF (.str (joinT a ys))) else .no
  | none => .no
theorem mts_join : MtS1 X (fun x xs H Q => ∃ a p, ∃ ys : List Str, x = .str a ∧ xs = [.ref p] ∧ (SqL X.K H p (ys.map V.str) ∨ SqT X.K H p (ys.map V.str)) ∧ (ys.map (·.length)).sum + ys.length * a.length ≤ 16777216 ∧ Q (.str (Txt.join a ys)) H) gJoin := by
  intro W H0 H F σ a rb y fb Q s0 tr g o
  unfold gJoin at o
  cases e1 : seqOf rb.d with
  | none =>
    rw [e1] at o
    exact o.elim
  | some xs =>
    obtain ⟨b, vs, f', ex, hv, rr, z⟩ := g.rep.seqL (seqOf_vw e1)
    rw [e1] at o
    cases e2 : strsOf xs with
    | none =>
      simp only [Option.bind_some, e2] at o
      exact o.elim
    | some ns =>
      simp only [Option.bind_some, e2] at o
      obtain ⟨q1, _⟩ := strsOf_reps rr e2
      subst ex
      rw [q1] at hv
      by_cases h : (ns.map (·.length)).sum + ns.length * a.length ≤ 1000000
      · rw [if_pos h] at o
        refine ⟨mkS a, b, ns.map mkS, rfl, rfl, .inl hv, ?_, ?_⟩
        · have : (ns.map mkS).map (·.length) = ns.map (·.length) := by
            rw [List.map_map]
            apply List.map_congr_left
            intro n _
            exact mkS_len n
          rw [this, List.length_map, mkS_len]
          omega
        · rw [join_tl]
          exact o.flat mk_str
      · rw [if_neg h] at o
        exact o.elim
theorem ev_join {apos pos : Pos} {o e : Expr} {f fo : Sto → Res Rs} (ho : Ev X W o fo) (he : Ev X W e f) (hs : starEach [e] X.env = [(false, eval e X.env)] := by rfl) (hbase : attributeBase o "join" X.env (eval o X.env) = eval o X.env := by rfl) (hline : (apos.endLine == pos.line) = true := by rfl) : Ev X W (.Call (.Attribute o "join" apos) [e] [] pos) (fM1 gJoin fo f) :=
  ev_m1 PySem.F.slot_str_join PySem.F.type_str_join mt_join mts_join ho he hs hbase hline
end
end PV

/-! PV8: what is walked, targets, list comprehensions over pure data. -/
namespace PV
open PySem PySem.Spec L2

/-! ### what is walked -/
/-- J gives these data in turn, while what it leans on stands -/
structure ItOk (G : Glo) (H0 : Hp) (F : Fp) (items : List Dat) (src : List Nat) (J : It) (H1 : Hp) (fp : List Addr) (Gd : Hp → Prop) : Prop where
  now : Gd H1
  walk : Walk J items.length Gd (fun i H x H' => Same H H' ∧ ∃ d f, items[i]? = some d ∧ Rep G H' d x f ∧ ∀ a ∈ f, a ∈ fp)
  keep : ∀ W H H', Gd H → Kp W H H' → (∀ a ∈ fp, a ∉ W) → Gd H'
  trk : ∀ H, Gd H → ∀ a ∈ fp, H a ≠ none
  src : ∀ a ∈ fp, H0 a = none ∨ ∃ i ∈ src, a ∈ F i
def tEi (X : Cx) (W : WX) (fi : Sto → Res (List Dat × List Nat)) : TI := fun σ H R => ∃ E F, RepE (glo X) H E σ F ∧ match fi E with
  | .ok (items, src) => ∀ J H1 fp Gd, Same H H1 → ItOk (glo X) H F items src J H1 fp Gd → R J H1
  | .exc c => ∀ C H', X.mg (mkS c) = some (.ref C) → Same H H' → W (.ref C) none σ H'
  | .no => False
structure Ei (X : Cx) (W : WX) (tg e : Expr) (fi : Sto → Res (List Dat × List Nat)) : Prop where
  pi : PI X tg e (tEi X W fi)
section
variable {X : Cx} {W : WX} {k : Nat}
theorem weakI {tg e : Expr} {t t' : TI} (p : PI X tg e t) (w : ∀ σ H R, t' σ H R → t σ H R) : PI X tg e t' := ⟨fun pins s σ H R I h => p.run pins s σ H R I (w σ H R h)⟩
theorem pi_orI {tg e : Expr} {t t' : TI} (p : PI X tg e t) (p' : PI X tg e t') : PI X tg e (fun σ H R => t σ H R ∨ t' σ H R) := ⟨fun pins s σ H R I h => h.elim (p.run pins s σ H R I) (p'.run pins s σ H R I)⟩
/-- a list, a tuple, a text -/
def gItems (r : Rs) : Res (List Dat × List Nat) := match r.d with
  | .lst xs => .ok (xs, r.src)
  | .rol xs => .ok (xs, r.src)
  | .tup xs => .ok (xs, r.src)
  | .str x => .ok (x.map (fun c => Dat.str [c]), [])
  | _ => .no
def iOf (f : Sto → Res Rs) : Sto → Res (List Dat × List Nat) := fun E => (f E).bind gItems
theorem seqI {f : Sto → Res Rs} {E : Sto} {F : Fp} {σ : L2.St} {H : Hp} {Q' : VK} {R : It → Hp → Prop} {kk : Rs → Res (List Dat × List Nat)} (re : RepE (glo X) H E σ F)
    (o : match (f E).bind kk with
      | .ok (items, src) => ∀ J H1 fp Gd, Same H H1 → ItOk (glo X) H F items src J H1 fp Gd → R J H1
      | .exc c => ∀ C H', X.mg (mkS c) = some (.ref C) → Same H H' → W (.ref C) none σ H'
      | .no => False)
    (h : ∀ r v H1 fp, f E = .ok r → Same H H1 → Gv (glo X) H F r v H1 fp → (match kk r with
      | .ok (items, src) => ∀ J H1 fp Gd, Same H H1 → ItOk (glo X) H F items src J H1 fp Gd → R J H1
      | .exc c => ∀ C H', X.mg (mkS c) = some (.ref C) → Same H H' → W (.ref C) none σ H'
      | .no => False) → Q' v H1) : tEv X W f σ H Q' := by
  refine ⟨E, F, re, ?_⟩
  cases e : f E with
  | no =>
    rw [e] at o
    exact o
  | exc c =>
    rw [e] at o
    exact o
  | ok r =>
    intro v H1 fp s1 g
    rw [e] at o
    exact h r v H1 fp e s1 g o
theorem itok_list {G : Glo} {H0 H1 : Hp} {F : Fp} {xs : List Dat} {src : List Nat} {a : Addr} {vs : List V} {f : List Addr} (h : H1 a = some (.lst vs)) (r : RepL G H1 xs vs f) (hs : ∀ b ∈ a :: f, H0 b = none ∨ ∃ i ∈ src, b ∈ F i) :
    ItOk G H0 F xs src (Itl G.K a) H1 (a :: f) (fun H => H a = some (.lst vs) ∧ RepL G H xs vs f) := by
  refine ⟨⟨h, r⟩, ?_, fun W H H' ⟨g1, g2⟩ kp n => ⟨kp.lst a vs (n a (by simp)) g1, RepL.kp kp xs vs f g2 fun b hb => n b (by simp [hb])⟩, fun H ⟨g1, g2⟩ b hb => ?_, hs⟩
  · have w := (walk_list (K := G.K) (a := a) (xs := vs))
    rw [r.len] at w
    refine w.mono (fun H g => .inl (.inl g.1)) fun i H x H' hi g y => ?_
    obtain ⟨e, hx⟩ := y
    subst e
    obtain ⟨v, f', q1, q2, q3⟩ := g.2.at (List.getElem?_eq_getElem hi)
    rw [hx] at q1
    injection q1 with q1
    subst q1
    exact ⟨Same.refl _, _, f', List.getElem?_eq_getElem hi, q2, fun b hb => by simp [q3 b hb]⟩
  · rcases List.mem_cons.mp hb with z | z
    · rw [z, g1]
      simp
    · exact RepL.trk _ _ _ g2 b z
theorem itok_rol {G : Glo} {H0 H1 : Hp} {F : Fp} {xs : List Dat} {src : List Nat} {a : Addr} {vs : List V} {f : List Addr} (h : RoL G.K H1 a vs) (r : RepL G H1 xs vs f) (hs : ∀ b ∈ f, H0 b = none ∨ ∃ i ∈ src, b ∈ F i) :
    ItOk G H0 F xs src (Itl G.K a) H1 f (fun H => RoL G.K H a vs ∧ RepL G H xs vs f) := by
  refine ⟨⟨h, r⟩, ?_, fun W H H' ⟨g1, g2⟩ kp n => ⟨g1.imp (kp.frl a vs) id, RepL.kp kp xs vs f g2 n⟩, fun H ⟨g1, g2⟩ b hb => RepL.trk _ _ _ g2 b hb, hs⟩
  have w := (walk_list (K := G.K) (a := a) (xs := vs))
  rw [r.len] at w
  refine w.mono (fun H g => g.1.elim (fun ⟨o, q⟩ => .inl (.inr ⟨o, q⟩)) .inr) fun i H x H' hi g y => ?_
  obtain ⟨e, hx⟩ := y
  subst e
  obtain ⟨v, f', q1, q2, q3⟩ := g.2.at (List.getElem?_eq_getElem hi)
  rw [hx] at q1
  injection q1 with q1
  subst q1
  exact ⟨Same.refl _, _, f', List.getElem?_eq_getElem hi, q2, q3⟩
theorem itok_tup {G : Glo} {H0 H1 : Hp} {F : Fp} {xs : List Dat} {src : List Nat} {a : Addr} {vs : List V} {f : List Addr} (h : SqT G.K H1 a vs) (r : RepL G H1 xs vs f) (hs : ∀ b ∈ f, H0 b = none ∨ ∃ i ∈ src, b ∈ F i) :
    ItOk G H0 F xs src (Itt G.K a) H1 f (fun H => SqT G.K H a vs ∧ RepL G H xs vs f) := by
  refine ⟨⟨h, r⟩, ?_, fun W H H' ⟨g1, g2⟩ kp n => ⟨g1.imp (kp.tup a vs) id, RepL.kp kp xs vs f g2 n⟩, fun H ⟨g1, g2⟩ b hb => RepL.trk _ _ _ g2 b hb, hs⟩
  have w := (walk_tup (K := G.K) (a := a) (xs := vs))
  rw [r.len] at w
  refine w.mono (fun H g => g.1) fun i H x H' hi g y => ?_
  obtain ⟨e, hx⟩ := y
  subst e
  obtain ⟨v, f', q1, q2, q3⟩ := g.2.at (List.getElem?_eq_getElem hi)
  rw [hx] at q1
  injection q1 with q1
  subst q1
  exact ⟨Same.refl _, _, f', List.getElem?_eq_getElem hi, q2, q3⟩
theorem itok_str {G : Glo} {H0 H1 : Hp} {F : Fp} {x : Tx} : ItOk G H0 F (x.map (fun c => Dat.str [c])) [] (Its (mkS x)) H1 [] (fun _ => True) := by
  refine ⟨trivial, ?_, fun _ _ _ _ _ _ => trivial, (fun _ _ _ z => nomatch z), (fun _ z => nomatch z)⟩
  have w := (walk_str (z := mkS x))
  have e : (mkS x).cps.size = (x.map (fun c => Dat.str [c])).length := by
    rw [List.length_map]
    show x.toArray.size = _
    simp
  rw [e] at w
  refine w.mono (fun H g => trivial) fun i H y H' hi g q => ?_
  obtain ⟨e1, c, hc, ey⟩ := q
  subst e1
  subst ey
  have hc' : x[i]? = some c := by
    have : (mkS x).cps[i]? = x[i]? := by
      show x.toArray[i]? = _
      simp
    rw [← this]
    exact hc
  refine ⟨Same.refl _, .str [c], [], ?_, ?_, (fun _ z => nomatch z)⟩
  · rw [List.getElem?_map, hc']
    rfl
  · exact mk_str (x := [c])
theorem itok_none {G : Glo} {H0 H1 : Hp} {F : Fp} {lo : Int} {n : Nat} : ItOk G H0 F ((List.range n).map (fun (i : Nat) => Dat.int (lo + i))) [] (Itr lo n) H1 [] (fun _ => True) := by
  refine ⟨trivial, ?_, fun _ _ _ _ _ _ => trivial, (fun _ _ _ z => nomatch z), (fun _ z => nomatch z)⟩
  have w := (walk_range (lo := lo) (n := n))
  rw [List.length_map, List.length_range]
  refine w.mono (fun H g => trivial) fun i H y H' hi g q => ?_
  obtain ⟨e1, ey⟩ := q
  subst e1
  subst ey
  refine ⟨Same.refl _, .int (lo + i), [], ?_, mk_int, (fun _ z => nomatch z)⟩
  rw [List.getElem?_map, List.getElem?_range hi]
  rfl
theorem ei_of {tg e : Expr} {f : Sto → Res Rs} (h : Ev X W e f) : Ei X W tg e (iOf f) := by
  refine ⟨weakI (pi_orI (pi_orI (pi_list h.pe) (pi_tup h.pe)) (pi_str h.pe)) fun σ H R ⟨E, F, re, o⟩ => ?_⟩
  have o : (match (f E).bind gItems with
      | .ok (items, src) => ∀ J H1 fp Gd, Same H H1 → ItOk (glo X) H F items src J H1 fp Gd → R J H1
      | .exc c => ∀ C H', X.mg (mkS c) = some (.ref C) → Same H H' → W (.ref C) none σ H'
      | .no => False) := o
  cases e0 : f E with
  | no =>
    rw [e0] at o
    exact o.elim
  | exc c =>
    left; left
    exact seqI (kk := gItems) re o fun r v H1 fp e1 => by
      rw [e0] at e1
      cases e1
  | ok r0 =>
    cases ed : r0.d with
    | lst xs =>
      left; left
      refine seqI (kk := gItems) re o fun r v H1 fp e1 s1 g o1 => ?_
      rw [e0] at e1
      cases e1
      have p := g.rep
      rw [ed] at p
      obtain ⟨a, vs, f', ex, hv, rr, z⟩ := rep_lst p
      simp only [gItems, ed] at o1
      refine ⟨a, ex, ⟨vs, .inl (.inl hv)⟩, o1 _ H1 (a :: f') _ s1 (itok_list (G := glo X) hv rr fun b hb => g.prv.src b (by rw [z]; exact hb))⟩
    | rol xs =>
      left; left
      refine seqI (kk := gItems) re o fun r v H1 fp e1 s1 g o1 => ?_
      rw [e0] at e1
      cases e1
      have p := g.rep
      rw [ed] at p
      simp only [Rep] at p
      obtain ⟨a, vs, ex, hv, rr⟩ := p
      simp only [gItems, ed] at o1
      exact ⟨a, ex, ⟨vs, hv.elim (fun ⟨o, q⟩ => .inl (.inr ⟨o, q⟩)) .inr⟩, o1 _ H1 fp _ s1 (itok_rol (G := glo X) hv rr g.prv.src)⟩
    | tup xs =>
      left; right
      refine seqI (kk := gItems) re o fun r v H1 fp e1 s1 g o1 => ?_
      rw [e0] at e1
      cases e1
      have p := g.rep
      rw [ed] at p
      simp only [Rep] at p
      obtain ⟨a, vs, ex, hv, rr⟩ := p
      simp only [gItems, ed] at o1
      exact ⟨a, ex, ⟨vs, hv⟩, o1 _ H1 fp _ s1 (itok_tup (G := glo X) hv rr g.prv.src)⟩
    | str x =>
      right
      refine seqI (kk := gItems) re o fun r v H1 fp e1 s1 g o1 => ?_
      rw [e0] at e1
      cases e1
      have p := g.rep
      rw [ed] at p
      simp only [gItems, ed] at o1
      exact ⟨mkS x, rep_str p, o1 _ H1 [] _ s1 itok_str⟩
    | _ =>
      rw [e0] at o
      simp only [bind_ok, gItems, ed] at o
/-- range(n), range(a, b) -/
def gRange1 (r : Rs) : Res (List Dat × List Nat) := match r.d with
  | .int j => if -1000000 ≤ j ∧ j ≤ 1000000 then .ok ((List.range j.toNat).map (fun (i : Nat) => Dat.int (0 + i)), []) else .no
  | _ => .no
def iRange1 (f : Sto → Res Rs) : Sto → Res (List Dat × List Nat) := fun E => (f E).bind gRange1
theorem ei_range1 {tg a : Expr} {p pos : Pos} {f : Sto → Res Rs} (hm : X.mg "range" = none) (h : Ev X W a f) (hg : Gl X "range" := by rfl) (hs : starEach [a] X.env = (false, eval a X.env) :: starEach [] X.env := by rfl) : Ei X W tg (.Call (.Name "range" p) [a] [] pos) (iRange1 f) := by
  refine ⟨weakI (pi_range1 hg hm (pa_cons h.pe pa_nil hs) hs) fun σ H R ⟨E, F, re, o⟩ => ?_⟩
  refine seqI (kk := gRange1) re o fun r v H1 fp e1 s1 g o1 => ?_
  have p := g.rep
  unfold gRange1 at o1
  cases ed : r.d with
  | int j =>
    simp only [ed] at o1
    rw [ed] at p
    by_cases hj : -1000000 ≤ j ∧ j ≤ 1000000
    · rw [if_pos hj] at o1
      refine ⟨j, by rw [rep_int p], by omega, by omega, ?_⟩
      exact o1 _ H1 [] _ s1 itok_none
    · rw [if_neg hj] at o1
      exact o1.elim
  | _ =>
    simp only [ed] at o1

/-! ### targets -/
inductive Tgt where
  | one (i : Nat) | many (l : List Nat)
def bindL : List Nat → List Dat → Sto → Option Sto
  | [], [], E => some E
  | i :: l, d :: ds, E => if i < E.length then bindL l ds (E.set i (some (d, .shr))) else none
  | _, _, _ => none
def bindT : Tgt → Dat → Sto → Option Sto
  | .one i, d, E => if i < E.length then some (E.set i (some (d, .shr))) else none
  | .many l, .tup ds, E => bindL l ds E
  | _, _, _ => none
def gL : List Nat → TGs
  | [] => gNil
  | i :: l => gCons (gName i) (gL l)
def gT (K : PySem.W.Frag) : Tgt → TG
  | .one i => gName i
  | .many l => gTup K l.length (gL l)
def slotsT : Tgt → List Nat
  | .one i => [i]
  | .many l => l
theorem slot_set {E : Sto} {i j : Nat} {x : Dat × Kd} (hi : i < E.length) : slot (E.set i (some x)) j = if j = i then some x else slot E j := by
  unfold slot
  by_cases h : j = i
  · subst h
    rw [if_pos rfl, List.getElem?_set_self hi]
  · rw [if_neg h, List.getElem?_set_ne (Ne.symm h)]
theorem slot_set_none {E : Sto} {i j : Nat} : slot (E.set i none) j = if j = i then none else slot E j := by
  unfold slot
  by_cases h : j = i
  · subst h
    rw [if_pos rfl]
    by_cases hl : j < E.length
    · rw [List.getElem?_set_self hl]
    · rw [List.getElem?_eq_none (by simpa using hl)]
  · rw [if_neg h, List.getElem?_set_ne (Ne.symm h)]
/-- a slot given -/
theorem RepE.set {G : Glo} {H : Hp} {E : Sto} {σ : L2.St} {F : Fp} {i : Nat} {d : Dat} {kd : Kd} {v : V} {f : List Addr} (r : RepE G H E σ F) (hi : i < E.length) (h : Rep G H d v f) :
    RepE G H (E.set i (some (d, kd))) (σ.set i (some v)) (fun j => if j = i then f else F j) := by
  have hs : i < σ.length := by
    rw [← r.len]
    exact hi
  refine ⟨by simp [r.len], fun j d' k' e => ?_, fun j e => ?_⟩
  · rw [slot_set hi] at e
    by_cases hj : j = i
    · subst hj
      rw [if_pos rfl] at e
      injection e with e
      cases e
      exact ⟨v, by rw [List.getElem?_set_self hs], by simpa using h⟩
    · rw [if_neg hj] at e
      obtain ⟨u, q1, q2⟩ := r.rep j d' k' e
      exact ⟨u, by rw [List.getElem?_set_ne (Ne.symm hj)]; exact q1, by simpa [hj] using q2⟩
  · rw [slot_set hi] at e
    by_cases hj : j = i
    · rw [if_pos hj] at e
      cases e
    · rw [if_neg hj] at e
      show (if j = i then f else F j) = []
      rw [if_neg hj]
      exact r.emp j e
/-- a slot forgotten -/
theorem RepE.drop {G : Glo} {H : Hp} {E : Sto} {σ : L2.St} {F : Fp} {i : Nat} {o : Option V} (r : RepE G H E σ F) : RepE G H (E.set i none) (σ.set i o) (fun j => if j = i then [] else F j) := by
  refine ⟨by simp [r.len], fun j d' k' e => ?_, fun j e => ?_⟩
  · rw [slot_set_none] at e
    by_cases hj : j = i
    · rw [if_pos hj] at e
      cases e
    · rw [if_neg hj] at e
      obtain ⟨u, q1, q2⟩ := r.rep j d' k' e
      exact ⟨u, by rw [List.getElem?_set_ne (Ne.symm hj)]; exact q1, by simpa [hj] using q2⟩
  · rw [slot_set_none] at e
    by_cases hj : j = i
    · show (if j = i then [] else F j) = []
      rw [if_pos hj]
    · rw [if_neg hj] at e
      show (if j = i then [] else F j) = []
      rw [if_neg hj]
      exact r.emp j e
/-- what a bound target leaves -/
structure Bnd (G : Glo) (H : Hp) (E : Sto) (σ : L2.St) (F : Fp) (l : List Nat) (f : List Addr) (E1 : Sto) (σ1 : L2.St) (F1 : Fp) : Prop where
  rep : RepE G H E1 σ1 F1
  out : ∀ j, j ∉ l → F1 j = F j ∧ slot E1 j = slot E j
  inn : ∀ j, j ∈ l → ∀ a ∈ F1 j, a ∈ f
  wip : ∀ vs : List Nat, (∀ i ∈ l, i ∈ vs) → wipe σ1 vs = wipe σ vs
  kin : ∀ j d k, j ∈ l → slot E1 j = some (d, k) → k = .shr
theorem wipe_set {σ : L2.St} {i : Nat} {o : Option V} : ∀ {vs : List Nat}, i ∈ vs → wipe (σ.set i o) vs = wipe σ vs
  | [], h => nomatch h
  | v :: vs, h => by
    show (wipe (σ.set i o) vs).set v none = (wipe σ vs).set v none
    by_cases hi : i ∈ vs
    · rw [wipe_set hi]
    · have e : i = v := (List.mem_cons.mp h).resolve_right hi
      subst e
      exact wipe_set' hi
where
  wipe_set' {σ : L2.St} {i : Nat} {o : Option V} : ∀ {vs : List Nat}, i ∉ vs → (wipe (σ.set i o) vs).set i none = (wipe σ vs).set i none
    | [], _ => by
      show (σ.set i o).set i none = σ.set i none
      rw [List.set_set]
    | v :: vs, h => by
      have hv : i ≠ v := fun e => h (by simp [e])
      show ((wipe (σ.set i o) vs).set v none).set i none = ((wipe σ vs).set v none).set i none
      rw [List.set_comm _ _ (Ne.symm hv), List.set_comm _ _ (Ne.symm hv), wipe_set' (fun z => h (by simp [z]))]
theorem bind_one {G : Glo} {H : Hp} {E : Sto} {σ : L2.St} {F : Fp} {i : Nat} {d : Dat} {v : V} {f : List Addr} (r : RepE G H E σ F) (hi : i < E.length) (h : Rep G H d v f) :
    Bnd G H E σ F [i] f (E.set i (some (d, .shr))) (σ.set i (some v)) (fun j => if j = i then f else F j) := by
  refine ⟨r.set hi h, fun j hj => ?_, fun j hj a ha => ?_, fun vs hv => wipe_set (hv i (by simp)), fun j d' k' hj e => ?_⟩
  · have : j ≠ i := fun e => hj (by simp [e])
    exact ⟨by simp [this], by rw [slot_set hi, if_neg this]⟩
  · have : j = i := by simpa using hj
    simpa [this] using ha
  · have : j = i := by simpa using hj
    rw [slot_set hi, if_pos this] at e
    cases e
    rfl
theorem bind_many {G : Glo} {H : Hp} : ∀ {l : List Nat} {ds : List Dat} {vs : List V} {f fp : List Addr} {E E1 : Sto} {σ : L2.St} {F : Fp} {Q : L2.St → Hp → Prop}, RepE G H E σ F → RepL G H ds vs f → (∀ a ∈ f, a ∈ fp) → bindL l ds E = some E1 →
    (∀ σ1 F1, Bnd G H E σ F l fp E1 σ1 F1 → Q σ1 H) → gL l vs σ H Q
  | [], [], vs, f, fp, E, E1, σ, F, Q, r, rl, hf, e, h => by
    simp only [RepL] at rl
    simp only [bindL] at e
    cases e
    refine ⟨rl.1, h σ F ⟨r, fun j _ => ⟨rfl, rfl⟩, (fun j hj => nomatch hj), fun vs _ => rfl, (fun j _ _ hj => nomatch hj)⟩⟩
  | [], _ :: _, vs, f, fp, E, E1, σ, F, Q, r, rl, hf, e, h => by simp only [bindL] at e; cases e
  | _ :: _, [], vs, f, fp, E, E1, σ, F, Q, r, rl, hf, e, h => by simp only [bindL] at e; cases e
  | i :: l, d :: ds, vs, f, fp, E, E1, σ, F, Q, r, rl, hf, e, h => by
    simp only [RepL] at rl
    obtain ⟨v, vs', f1, f2, e1, e2, r1, rr⟩ := rl
    subst e1
    subst e2
    simp only [bindL] at e
    by_cases hi : i < E.length
    · rw [if_pos hi] at e
      have b1 := bind_one r hi r1
      refine ⟨v, vs', rfl, ?_⟩
      refine bind_many b1.rep rr (fun a ha => hf a (by simp [ha])) e fun σ1 F1 b2 => h σ1 F1 ?_
      refine ⟨b2.rep, fun j hj => ?_, fun j hj a ha => ?_, fun vs hv => ?_, fun j d' k' hj e' => ?_⟩
      · have h1 : j ∉ l := fun z => hj (by simp [z])
        have h2 : j ∉ [i] := fun z => hj (by simp at z; simp [z])
        exact ⟨(b2.out j h1).1.trans (b1.out j h2).1, (b2.out j h1).2.trans (b1.out j h2).2⟩
      · by_cases hl : j ∈ l
        · exact b2.inn j hl a ha
        · rw [(b2.out j hl).1] at ha
          have : j = i := (List.mem_cons.mp hj).resolve_right hl
          exact hf a (by simp [b1.inn j (by simp [this]) a ha])
      · rw [b2.wip vs fun z hz => hv z (by simp [hz])]
        exact b1.wip vs fun z hz => hv z (by simp at hz; simp [hz])
      · by_cases hl : j ∈ l
        · exact b2.kin j d' k' hl e'
        · rw [(b2.out j hl).2] at e'
          have : j = i := (List.mem_cons.mp hj).resolve_right hl
          exact b1.kin j d' k' (by simp [this]) e'
    · rw [if_neg hi] at e
      cases e
theorem bind_tg {G : Glo} {H : Hp} {T : Tgt} {d : Dat} {v : V} {f : List Addr} {E E1 : Sto} {σ : L2.St} {F : Fp} {Q : L2.St → Hp → Prop} (r : RepE G H E σ F) (h : Rep G H d v f) (e : bindT T d E = some E1)
    (hq : ∀ σ1 F1, Bnd G H E σ F (slotsT T) f E1 σ1 F1 → Q σ1 H) : gT G.K T v σ H Q := by
  cases T with
  | one i =>
    simp only [bindT] at e
    by_cases hi : i < E.length
    · rw [if_pos hi] at e
      cases e
      exact hq _ _ (bind_one r hi h)
    · rw [if_neg hi] at e
      cases e
  | many l =>
    cases d with
    | tup ds =>
      simp only [bindT] at e
      simp only [Rep] at h
      obtain ⟨a, vs, ev, hs, rl⟩ := h
      refine ⟨a, vs, ev, hs, ?_, bind_many r rl (fun _ z => z) e hq⟩
      rw [rl.len]
      exact bindL_len e
    | _ =>
      simp only [bindT] at e
      cases e
where
  bindL_len : ∀ {l : List Nat} {ds : List Dat} {E E1 : Sto}, bindL l ds E = some E1 → ds.length = l.length
    | [], [], _, _, _ => rfl
    | [], _ :: _, _, _, e => by simp only [bindL] at e; cases e
    | _ :: _, [], _, _, e => by simp only [bindL] at e; cases e
    | i :: l, d :: ds, E, E1, e => by
      simp only [bindL] at e
      by_cases hi : i < E.length
      · rw [if_pos hi] at e
        show ds.length + 1 = l.length + 1
        rw [bindL_len e]
      · rw [if_neg hi] at e
        cases e
end
end PV

/-! PV9: list comprehensions over pure data. -/
namespace PV
open PySem PySem.Spec L2
abbrev Wn : WX := fun _ _ _ _ => False
def wipeE (E : Sto) : List Nat → Sto
  | [] => E
  | v :: vs => (wipeE E vs).set v none
theorem wipe_wipe {σ : L2.St} : ∀ vs : List Nat, wipe (wipe σ vs) vs = wipe σ vs := by
  have key : ∀ (us vs : List Nat), (∀ i ∈ us, i ∈ vs) → wipe (wipe σ us) vs = wipe σ vs := by
    intro us
    induction us with
    | nil => exact fun vs _ => rfl
    | cons u us ih =>
      intro vs h
      show wipe ((wipe σ us).set u none) vs = _
      rw [wipe_set (h u (by simp))]
      exact ih vs fun i hi => h i (by simp [hi])
  exact fun vs => key vs vs fun _ h => h
theorem RepE.wipe {G : Glo} {H : Hp} {E : Sto} {σ : L2.St} {F : Fp} (r : RepE G H E σ F) : ∀ vs : List Nat, RepE G H (wipeE E vs) (L2.wipe σ vs) (fun j => if j ∈ vs then [] else F j)
  | [] => by
    have : (fun j => if j ∈ ([] : List Nat) then ([] : List Addr) else F j) = F := by
      funext j
      simp
    rw [this]
    exact r
  | v :: vs => by
    have h := (r.wipe vs).drop (i := v) (o := none)
    have : (fun j => if j ∈ v :: vs then ([] : List Addr) else F j) = (fun j => if j = v then [] else if j ∈ vs then [] else F j) := by
      funext j
      by_cases h1 : j = v
      · simp [h1]
      · by_cases h2 : j ∈ vs <;> simp [h1, h2]
    rw [this]
    exact h
def compGo (st : Dat → Res (Option Rs)) : List Dat → Res (List Rs)
  | [] => .ok []
  | d :: ds => (st d).bind fun o => (compGo st ds).bind fun rs => .ok (o.toList ++ rs)
def stepC (T : Tgt) (E : Sto) (ft : Sto → Res Bool) (fe : Sto → Res Rs) (d : Dat) : Res (Option Rs) := match bindT T d E with
  | none => .no
  | some E1 => (ft E1).bind fun b => if b then (fe E1).bind fun r => .ok (some r) else .ok none
def isDeep (r : Rs) : Bool := match r.mv with
  | some [] => true
  | _ => false
def rComp (T : Tgt) (rs : List Rs) (src : List Nat) : Rs := ⟨.lst (rs.map (·.d)), true, (allSrc rs).filter (fun j => decide (j ∉ slotsT T)) ++ src, if rs.all isDeep then some [] else none⟩
def fComp (T : Tgt) (own : List Nat) (fi : Sto → Res (List Dat × List Nat)) (ft : Sto → Res Bool) (fe : Sto → Res Rs) : Sto → Res Rs := fun E => (fi E).bind fun p => match compGo (stepC T (wipeE E own) ft fe) p.1 with
  | .ok rs => if rs.length ≤ 1000000 then .ok (rComp T rs p.2) else .no
  | _ => .no
theorem compGo_app {st : Dat → Res (Option Rs)} : ∀ (xs ys : List Dat), compGo st (xs ++ ys) = (compGo st xs).bind fun a => (compGo st ys).bind fun b => .ok (a ++ b)
  | [], ys => by
    show compGo st ys = (compGo st ys).bind fun b => .ok ([] ++ b)
    cases compGo st ys <;> rfl
  | x :: xs, ys => by
    show (st x).bind _ = _
    have ih := compGo_app (st := st) xs ys
    simp only [List.append_eq, ih, compGo]
    cases st x <;> simp only [Res.bind]
    cases compGo st xs <;> simp only [Res.bind]
    cases compGo st ys <;> simp only [Res.bind, List.append_assoc]
theorem compGo_take {st : Dat → Res (Option Rs)} {items : List Dat} {rs : List Rs} (h : compGo st items = .ok rs) (i : Nat) : ∃ a, compGo st (items.take i) = .ok a ∧ a.length ≤ rs.length := by
  have e := compGo_app (st := st) (items.take i) (items.drop i)
  rw [List.take_append_drop, h] at e
  cases e1 : compGo st (items.take i) with
  | no =>
    rw [e1] at e
    cases e
  | exc c =>
    rw [e1] at e
    cases e
  | ok a =>
    refine ⟨a, rfl, ?_⟩
    rw [e1] at e
    cases e2 : compGo st (items.drop i) with
    | no =>
      rw [e2] at e
      cases e
    | exc c =>
      rw [e2] at e
      cases e
    | ok b =>
      rw [e2] at e
      have e : Res.ok rs = Res.ok (a ++ b) := e
      injection e with e
      rw [e]
      simp
theorem compGo_step {st : Dat → Res (Option Rs)} {items : List Dat} {rs a : List Rs} {i : Nat} {d : Dat} (h : compGo st items = .ok rs) (hd : items[i]? = some d) (ha : compGo st (items.take i) = .ok a) :
    ∃ o, st d = .ok o ∧ compGo st (items.take (i + 1)) = .ok (a ++ o.toList) := by
  have et : items.take (i + 1) = items.take i ++ [d] := by
    rw [List.take_add_one, hd]
    rfl
  obtain ⟨b, hb, _⟩ := compGo_take h (i + 1)
  rw [et, compGo_app, ha] at hb
  simp only [Res.bind, compGo] at hb
  cases e : st d with
  | no =>
    rw [e] at hb
    cases hb
  | exc c =>
    rw [e] at hb
    cases hb
  | ok o =>
    refine ⟨o, rfl, ?_⟩
    rw [et, compGo_app, ha]
    simp only [Res.bind, compGo, e, List.append_nil]
section
variable {X : Cx} {W : WX} {k : Nat}
/-- the new list so far -/
structure Acc (G : Glo) (H : Hp) (F : Fp) (T : Tgt) (src : List Nat) (D : Addr) (rs : List Rs) (H' : Hp) (acc : List V) (fpa : List Addr) : Prop where
  at_ : H' D = some (.lst acc)
  rep : RepL G H' (rs.map (·.d)) acc fpa
  nd : D ∉ fpa
  src : ∀ a ∈ fpa, H a = none ∨ ∃ j ∈ (allSrc rs).filter (fun j => decide (j ∉ slotsT T)) ++ src, a ∈ F j
  deep : rs.all isDeep = true → fpa.Nodup ∧ ∀ a ∈ fpa, H a = none ∧ Wr H' a
theorem comp_lc {T : Tgt} {own : List Nat} {fi : Sto → Res (List Dat × List Nat)} {ft : Sto → Res Bool} {fe : Sto → Res Rs} (hT : ∀ i ∈ slotsT T, i ∈ own) {σ : L2.St} {H : Hp} {Q : VK} (h : tEv X W (fComp T own fi ft fe) σ H Q) :
    tLc (tEi X W fi) (gT X.K T) (tEt X Wn ft) (tEv X Wn fe) own σ H Q := by
  obtain ⟨E, F, re, o⟩ := h
  refine ⟨E, F, re, ?_⟩
  unfold fComp at o
  cases e0 : fi E with
  | no =>
    rw [e0] at o
    exact o
  | exc c =>
    rw [e0] at o
    exact o
  | ok p =>
    obtain ⟨items, src⟩ := p
    rw [e0] at o
    simp only [bind_ok] at o
    intro J H1 fp Gd s1 it D hD
    cases e1 : compGo (stepC T (wipeE E own) ft fe) items with
    | no =>
      rw [e1] at o
      exact o.elim
    | exc c =>
      rw [e1] at o
      exact o.elim
    | ok rs =>
      simp only [e1] at o
      by_cases hl : rs.length ≤ 1000000
      · rw [if_pos hl] at o
        have hD0 : H D = none := s1.free hD
        have nfp : D ∉ fp := fun z => it.trk H1 it.now D z hD
        have nF : ∀ j, D ∉ F j := fun j z => re.trk j D z hD0
        have s1D : Same H1 (upd H1 D (.lst [])) := same_new hD
        refine lc_it it.walk (fun i H' => Gd H' ∧ Same H1 H' ∧ ∃ a acc fpa, compGo (stepC T (wipeE E own) ft fe) (items.take i) = .ok a ∧ Acc (glo X) H F T src D a H' acc fpa) ?_ (fun i H' _ q => q.1) ?_ ?_
        · refine ⟨it.keep [] _ _ it.now (Kp.same s1D) (fun _ _ => by simp), s1D, [], [], [], rfl, upd_same, RepL.nil, by simp, (fun _ z => nomatch z), fun _ => ⟨.nil, (fun _ z => nomatch z)⟩⟩
        · rintro i x H2 H3 hi ⟨g2, s2, a, acc, fpa, ea, A⟩ ⟨s3, d, f, hd, rd, hf⟩
          obtain ⟨oo, est, enx⟩ := compGo_step e1 hd ea
          have s03 : Same H H3 := s1.trans (s2.trans s3)
          unfold stepC at est
          cases eb : bindT T d (wipeE E own) with
          | none =>
            rw [eb] at est
            cases est
          | some E1 =>
            simp only [eb] at est
            refine bind_tg (G := glo X) ((re.same s03).wipe own) rd eb fun σ1 F1 B => ⟨(B.wip own hT).trans (wipe_wipe own), E1, F1, B.rep, ?_⟩
            have hF1 : ∀ j, ∀ b ∈ F1 j, (j ∈ slotsT T ∧ b ∈ f) ∨ (j ∉ slotsT T ∧ b ∈ F j) := by
              intro j b hb
              by_cases hj : j ∈ slotsT T
              · exact .inl ⟨hj, B.inn j hj b hb⟩
              · rw [(B.out j hj).1] at hb
                by_cases ho : j ∈ own
                · simp [ho] at hb
                · simp only [ho, if_false] at hb
                  exact .inr ⟨hj, hb⟩
            cases et : ft E1 with
            | no =>
              rw [et] at est
              cases est
            | exc c =>
              rw [et] at est
              cases est
            | ok b =>
              rw [et] at est
              intro H4 s4
              have A4 : Acc (glo X) H F T src D a H4 acc fpa := ⟨s4 _ _ (s3 _ _ A.at_), (A.rep.same s3).same s4, A.nd, A.src, fun z => ⟨(A.deep z).1, fun c hc => ⟨((A.deep z).2 c hc).1, (((A.deep z).2 c hc).2.same s3).same s4⟩⟩⟩
              have g4 : Gd H4 := it.keep [] _ _ g2 (Kp.same (s3.trans s4)) (fun _ _ => by simp)
              cases b with
              | false =>
                simp only [bind_ok, Bool.false_eq_true, if_false] at est
                injection est with est
                subst est
                rw [if_neg Bool.false_ne_true]
                refine ⟨g4, s2.trans (s3.trans s4), a, acc, fpa, ?_, A4⟩
                rw [enx]
                simp
              | true =>
                simp only [bind_ok, if_true] at est
                rw [if_pos rfl]
                refine ⟨E1, F1, B.rep.same s4, ?_⟩
                cases er : fe E1 with
                | no =>
                  rw [er] at est
                  cases est
                | exc c =>
                  rw [er] at est
                  cases est
                | ok r =>
                  rw [er] at est
                  have est : Res.ok (some r) = Res.ok oo := est
                  injection est with est
                  subst est
                  intro y H5 fy s5 gy
                  have at5 : H5 D = some (.lst acc) := s5 _ _ A4.at_
                  have w5 : Wr H5 D := ⟨_, at5, rfl⟩
                  have s45 : Same H2 H5 := s3.trans (s4.trans s5)
                  have la : a.length ≤ 1000000 := by
                    obtain ⟨a', ha', hl'⟩ := compGo_take e1 i
                    rw [ea] at ha'
                    injection ha' with ha'
                    subst ha'
                    omega
                  have lacc : acc.length = a.length := by
                    have := A.rep.len
                    rw [List.length_map] at this
                    exact this
                  have nfy : D ∉ fy := by
                    intro z
                    rcases gy.prv.src D z with q | ⟨j, _, q⟩
                    · rw [A4.at_] at q
                      cases q
                    · rcases hF1 j D q with ⟨_, q⟩ | ⟨_, q⟩
                      · exact nfp (hf D q)
                      · exact nF j q
                  refine ⟨acc, at5, sizeLine_lt (by omega), it.keep [D] _ _ (it.keep [] _ _ g4 (Kp.same s5) (fun _ _ => by simp)) (Kp.upd w5) (fun c hc z => nfp (by
                    have : c = D := by simpa using z
                    rw [← this]
                    exact hc)), fun c o' hc => ?_, a ++ [r], acc ++ [y], fpa ++ fy, by rw [enx]; rfl, upd_same, ?_, fun z => ?_, fun c hc => ?_, fun z => ?_⟩
                  · rw [upd_ne (ne_of_none hc hD)]
                    exact s45 _ _ (s2 _ _ hc)
                  · rw [List.map_append]
                    have q1 := RepL.kp (Kp.upd (o := .lst (acc ++ [y])) w5) _ _ _ (A4.rep.same s5) fun c hc z => A.nd (by
                      have : c = D := by simpa using z
                      rw [← this]
                      exact hc)
                    have q2 := Rep.kp (Kp.upd (o := .lst (acc ++ [y])) w5) _ _ _ gy.rep fun c hc z => nfy (by
                      have : c = D := by simpa using z
                      rw [← this]
                      exact hc)
                    exact q1.app (RepL.one q2)
                  · rcases List.mem_append.mp z with q | q
                    · exact A.nd q
                    · exact nfy q
                  · have asrc : allSrc (a ++ [r]) = allSrc a ++ r.src := by
                      unfold allSrc
                      simp
                    rw [asrc, List.filter_append]
                    rcases List.mem_append.mp hc with q | q
                    · rcases A.src c q with w | ⟨j, hj, w⟩
                      · exact .inl w
                      · refine .inr ⟨j, ?_, w⟩
                        rcases List.mem_append.mp hj with u | u
                        · exact List.mem_append.mpr (.inl (List.mem_append.mpr (.inl u)))
                        · exact List.mem_append.mpr (.inr u)
                    · rcases gy.prv.src c q with w | ⟨j, hj, w⟩
                      · exact .inl ((s03.trans s4).free w)
                      · rcases hF1 j c w with ⟨_, w⟩ | ⟨nj, w⟩
                        · rcases it.src c (hf c w) with v | ⟨l, hl', v⟩
                          · exact .inl v
                          · exact .inr ⟨l, by simp [hl'], v⟩
                        · exact .inr ⟨j, by simp [hj, nj], w⟩
                  · have z1 : a.all isDeep = true ∧ isDeep r = true := by simpa using z
                    obtain ⟨n1, w1⟩ := A.deep z1.1
                    have em : r.mv = some [] := by
                      have := z1.2
                      unfold isDeep at this
                      split at this
                      · assumption
                      · cases this
                    obtain ⟨fr, p1, n2, w2⟩ := gy.prv.mv [] em
                    have p1 : fy.Perm fr := by simpa using p1
                    refine ⟨List.nodup_append.mpr ⟨n1, p1.symm.nodup_iff.mp n2, fun c hc c' hc' e => ?_⟩, fun c hc => ?_⟩
                    · subst e
                      have t1 := RepL.trk _ _ _ A4.rep c hc
                      exact t1 (w2 c (p1.mem_iff.mp hc')).1
                    · have cD : c ≠ D := fun e => by
                        subst e
                        rcases List.mem_append.mp hc with q | q
                        · exact A.nd q
                        · exact nfy q
                      have wup : Wr H5 c → Wr (upd H5 D (.lst (acc ++ [y]))) c := fun ⟨o', e', w'⟩ => ⟨o', by rw [upd_ne cD]; exact e', w'⟩
                      rcases List.mem_append.mp hc with q | q
                      · exact ⟨(w1 c q).1, wup ((w1 c q).2.same s45)⟩
                      · have u := w2 c (p1.mem_iff.mp q)
                        exact ⟨(s03.trans s4).free u.1, wup u.2⟩
        · rintro H2 ⟨g2, s2, a, acc, fpa, ea, A⟩
          rw [List.take_length, e1] at ea
          injection ea with ea
          subst ea
          refine o (.ref D) H2 (D :: fpa) (s1.trans s2) ⟨?_, ?_, fun _ => ⟨D, fpa, rfl, hD0, ⟨_, A.at_, rfl⟩, A.nd⟩, fun m em => ?_⟩
          · show Rep (glo X) H2 (.lst (rs.map (·.d))) (.ref D) (D :: fpa)
            simp only [Rep]
            exact ⟨D, acc, fpa, rfl, A.at_, A.rep, rfl⟩
          · intro c hc
            rcases List.mem_cons.mp hc with q | q
            · rw [q]
              exact .inl hD0
            · exact A.src c q
          · have em : (if rs.all isDeep then some [] else none) = some m := em
            by_cases hz : rs.all isDeep = true
            · rw [if_pos hz] at em
              injection em with em
              subst em
              obtain ⟨n1, w1⟩ := A.deep hz
              refine ⟨D :: fpa, by simp, List.nodup_cons.mpr ⟨A.nd, n1⟩, fun c hc => ?_⟩
              rcases List.mem_cons.mp hc with q | q
              · rw [q]
                exact ⟨hD0, ⟨_, A.at_, rfl⟩⟩
              · exact w1 c q
            · rw [if_neg hz] at em
              cases em
      · rw [if_neg hl] at o
        exact o.elim
/-- [elt for target in iter if test] -/
structure CompOk (X : Cx) (W : WX) (T : Tgt) (own : List (Str × Nat)) (elt tg iter : Expr) (ifs : List Expr) (scope : Scope) (fi : Sto → Res (List Dat × List Nat)) (ft : Sto → Res Bool) (fe : Sto → Res Rs) : Prop where
  sub : ∀ i ∈ slotsT T, i ∈ own.map (·.2)
  pi : PI X tg iter (tEi X W fi)
  blk : BlkOk X.N X.env.scope scope own
  tgt : ∀ (s : Shared) (H : Hp) (C : Addr) (cl : List (Str × Addr)) (fp : List Addr), PG (X.blk s H scope (compEnvC scope cl C X.env) fp) tg (gT X.K T)
  tst : ∀ (s : Shared) (H : Hp) (C : Addr) (cl : List (Str × Addr)) (fp : List Addr), PTs (X.blk s H scope (compEnvC scope cl C X.env) fp) ifs (tEt X Wn ft)
  elt : ∀ (s : Shared) (H : Hp) (C : Addr) (cl : List (Str × Addr)) (fp : List Addr), PE (X.blk s H scope (compEnvC scope cl C X.env) fp) elt (tEv X Wn fe)
theorem ev_comp (C : XOk k X) {T : Tgt} {own : List (Str × Nat)} {elt tg iter : Expr} {ifs : List Expr} {scope : Scope} {pos : Pos} {fi : Sto → Res (List Dat × List Nat)} {ft : Sto → Res Bool} {fe : Sto → Res Rs} (c : CompOk X W T own elt tg iter ifs scope fi ft fe)
    (hs : ∀ x, foldedSetIterable iter X.env x = pure x := by intro _; rfl) : Ev X W (.ListComp elt [⟨tg, iter, ifs, 0⟩] scope pos) (fComp T (own.map (·.2)) fi ft fe) :=
  ⟨weakE (pe_lc C.calm C.nd c.pi c.blk c.tgt c.tst c.elt hs) fun σ H Q h => comp_lc c.sub h⟩
def tTrue : Sto → Res Bool := fun _ => .ok true
theorem pts_true {X' : Cx} : PTs X' [] (tEt X Wn tTrue) := ⟨fun pins s σ H Q I ⟨E, F, re, o⟩ => (pts_nil (X := X')).run pins s σ H Q I (o H (Same.refl H))⟩
end
end PV

/-! PV10: statements over pure data: who holds what may be written. -/
namespace PV
open PySem PySem.Spec L2

/-- what a block is run within: the heap at the def's entry, what is locked, what must stand (iterators' lists), what was handed in -/
structure Fx where
  H0 : Hp
  Lk : List Addr
  T : List ((Hp → Prop) × List Addr)
  P : Addr → Prop
def kd (E : Sto) (i : Nat) : Kd := match slot E i with
  | some (_, k) => k
  | none => .shr
def owK (k : Kd) (fp : List Addr) : List Addr := match k with
  | .deep => fp
  | .root => fp.take 1
  | .shr => []
def Ow (E : Sto) (F : Fp) (i : Nat) : List Addr := owK (kd E i) (F i)
theorem owK_sub {k : Kd} {fp : List Addr} : ∀ a ∈ owK k fp, a ∈ fp := by
  intro a ha
  cases k with
  | deep => exact ha
  | root => exact List.mem_of_mem_take ha
  | shr => cases ha
structure Prot (t : (Hp → Prop) × List Addr) : Prop where
  keep : ∀ W H H', t.1 H → Kp W H H' → (∀ a ∈ t.2, a ∉ W) → t.1 H'
  trk : ∀ H, t.1 H → ∀ a ∈ t.2, H a ≠ none
def Frm (B : Fx) (H : Hp) : Prop := ∀ b o, B.H0 b = some o → H b = some o ∨ (b ∈ B.Lk ∧ ∃ ob, H b = some (.frz ob o))
structure R (G : Glo) (B : Fx) (E : Sto) (σ : L2.St) (H : Hp) (F : Fp) : Prop where
  rep : RepE G H E σ F
  own : ∀ i, ∀ a ∈ Ow E F i, Wr H a ∧ B.H0 a = none
  nod : ∀ i, kd E i = .deep → (F i).Nodup
  rot : ∀ i, kd E i = .root → ∃ a f, F i = a :: f ∧ a ∉ f
  sep : ∀ i j, i ≠ j → ∀ a ∈ Ow E F i, a ∉ F j
  pro : ∀ t ∈ B.T, Prot t
  tmp : ∀ t ∈ B.T, t.1 H ∧ ∀ i, ∀ a ∈ Ow E F i, a ∉ t.2
  prv : ∀ i, ∀ a ∈ F i, B.H0 a = none ∨ B.P a
  frm : Frm B H
theorem Frm.same {B : Fx} {H H' : Hp} (f : Frm B H) (s : Same H H') : Frm B H' := fun b o e => (f b o e).imp (s _ _) fun ⟨h, ob, q⟩ => ⟨h, ob, s _ _ q⟩
theorem Frm.new {B : Fx} {H : Hp} (f : Frm B H) {a : Addr} (h : H a = none) : B.H0 a = none := by
  cases e : B.H0 a with
  | none => rfl
  | some o =>
    rcases f a o e with q | ⟨_, ob, q⟩
    · rw [h] at q
      cases q
    · rw [h] at q
      cases q
theorem R.same {G : Glo} {B : Fx} {E : Sto} {σ : L2.St} {H H' : Hp} {F : Fp} (r : R G B E σ H F) (s : Same H H') : R G B E σ H' F :=
  ⟨r.rep.same s, fun i a ha => ⟨(r.own i a ha).1.same s, (r.own i a ha).2⟩, r.nod, r.rot, r.sep, r.pro, fun t ht => ⟨(r.pro t ht).keep [] H H' (r.tmp t ht).1 (Kp.same s) (fun _ _ => by simp), (r.tmp t ht).2⟩, r.prv, r.frm.same s⟩
/-- a value in hand, apart from the slots -/
structure Hand (G : Glo) (B : Fx) (E : Sto) (F : Fp) (H : Hp) (d : Dat) (k : Kd) (v : V) (fp : List Addr) : Prop where
  rep : Rep G H d v fp
  own : ∀ a ∈ owK k fp, Wr H a ∧ B.H0 a = none
  nod : k = .deep → fp.Nodup
  rot : k = .root → ∃ a f, fp = a :: f ∧ a ∉ f
  sp1 : ∀ a ∈ owK k fp, ∀ j, a ∉ F j
  sp2 : ∀ j, ∀ a ∈ Ow E F j, a ∉ fp
  tmp : ∀ t ∈ B.T, ∀ a ∈ owK k fp, a ∉ t.2
  prv : ∀ a ∈ fp, B.H0 a = none ∨ B.P a
theorem kd_set {E : Sto} {i j : Nat} {d : Dat} {k : Kd} (hi : i < E.length) : kd (E.set i (some (d, k))) j = if j = i then k else kd E j := by
  unfold kd
  rw [slot_set hi]
  by_cases h : j = i
  · simp [h]
  · simp [h]
/-- laid into a slot -/
theorem R.put {G : Glo} {B : Fx} {E : Sto} {σ : L2.St} {H : Hp} {F : Fp} {i : Nat} {d : Dat} {k : Kd} {v : V} {fp : List Addr} (r : R G B E σ H F) (h : Hand G B E F H d k v fp) (hi : i < E.length) :
    R G B (E.set i (some (d, k))) (σ.set i (some v)) H (fun j => if j = i then fp else F j) := by
  have ow : ∀ j, Ow (E.set i (some (d, k))) (fun j => if j = i then fp else F j) j = if j = i then owK k fp else Ow E F j := by
    intro j
    unfold Ow
    rw [kd_set hi]
    by_cases hj : j = i
    · simp [hj]
    · simp [hj]
  refine ⟨r.rep.set hi h.rep, fun j a ha => ?_, fun j e => ?_, fun j e => ?_, fun j l n a ha => ?_, r.pro, fun t ht => ⟨(r.tmp t ht).1, fun j a ha => ?_⟩, fun j a ha => ?_, r.frm⟩
  · rw [ow] at ha
    by_cases hj : j = i
    · rw [if_pos hj] at ha
      exact h.own a ha
    · rw [if_neg hj] at ha
      exact r.own j a ha
  · rw [kd_set hi] at e
    by_cases hj : j = i
    · rw [if_pos hj] at e
      simp only [hj, if_true]
      exact h.nod e
    · rw [if_neg hj] at e
      simp only [hj, if_false]
      exact r.nod j e
  · rw [kd_set hi] at e
    by_cases hj : j = i
    · rw [if_pos hj] at e
      simp only [hj, if_true]
      exact h.rot e
    · rw [if_neg hj] at e
      simp only [hj, if_false]
      exact r.rot j e
  · rw [ow] at ha
    by_cases hj : j = i
    · rw [if_pos hj] at ha
      have hl : l ≠ i := fun e => n (hj.trans e.symm)
      simp only [hl, if_false]
      exact h.sp1 a ha l
    · rw [if_neg hj] at ha
      by_cases hl : l = i
      · simp only [hl, if_true]
        exact h.sp2 j a ha
      · simp only [hl, if_false]
        exact r.sep j l n a ha
  · rw [ow] at ha
    by_cases hj : j = i
    · rw [if_pos hj] at ha
      exact h.tmp t ht a ha
    · rw [if_neg hj] at ha
      exact (r.tmp t ht).2 j a ha
  · by_cases hj : j = i
    · simp only [hj, if_true] at ha
      exact h.prv a ha
    · simp only [hj, if_false] at ha
      exact r.prv j a ha
/-- slots forgotten -/
theorem RepE.kill {G : Glo} {H : Hp} {E : Sto} {σ : L2.St} {F : Fp} (r : RepE G H E σ F) : ∀ m : List Nat, RepE G H (wipeE E m) σ (fun j => if j ∈ m then [] else F j)
  | [] => by
    have : (fun j => if j ∈ ([] : List Nat) then ([] : List Addr) else F j) = F := by
      funext j
      simp
    rw [this]
    exact r
  | i :: m => by
    have ih := r.kill m
    refine ⟨by rw [wipeE, List.length_set, ih.len], fun j d k e => ?_, fun j e => ?_⟩
    · rw [wipeE, slot_set_none] at e
      by_cases hj : j = i
      · rw [if_pos hj] at e
        cases e
      · rw [if_neg hj] at e
        obtain ⟨v, q1, q2⟩ := ih.rep j d k e
        refine ⟨v, q1, ?_⟩
        by_cases hm : j ∈ m
        · simpa [hj, hm] using q2
        · simpa [hj, hm] using q2
    · rw [wipeE, slot_set_none] at e
      by_cases hj : j = i
      · simp [hj]
      · rw [if_neg hj] at e
        have := ih.emp j e
        by_cases hm : j ∈ m
        · simp [hm]
        · simpa [hj, hm] using this
theorem slot_wipe {E : Sto} {j : Nat} : ∀ {m : List Nat}, slot (wipeE E m) j = if j ∈ m then none else slot E j
  | [] => by simp [wipeE]
  | i :: m => by
    rw [wipeE, slot_set_none, slot_wipe]
    by_cases h : j = i
    · simp [h]
    · simp [h]
theorem kd_wipe {E : Sto} {m : List Nat} {j : Nat} : kd (wipeE E m) j = if j ∈ m then .shr else kd E j := by
  unfold kd
  rw [slot_wipe]
  by_cases h : j ∈ m <;> simp [h]
theorem R.kill {G : Glo} {B : Fx} {E : Sto} {σ : L2.St} {H : Hp} {F : Fp} (r : R G B E σ H F) (m : List Nat) : R G B (wipeE E m) σ H (fun j => if j ∈ m then [] else F j) := by
  have ow : ∀ j, Ow (wipeE E m) (fun j => if j ∈ m then [] else F j) j = if j ∈ m then [] else Ow E F j := by
    intro j
    unfold Ow
    rw [kd_wipe]
    by_cases h : j ∈ m
    · simp [h, owK]
    · simp [h]
  refine ⟨r.rep.kill m, fun j a ha => ?_, fun j e => ?_, fun j e => ?_, fun j l n a ha => ?_, r.pro, fun t ht => ⟨(r.tmp t ht).1, fun j a ha => ?_⟩, fun j a ha => ?_, r.frm⟩
  · rw [ow] at ha
    by_cases h : j ∈ m
    · simp [h] at ha
    · rw [if_neg h] at ha
      exact r.own j a ha
  · rw [kd_wipe] at e
    by_cases h : j ∈ m
    · simp [h]
    · rw [if_neg h] at e
      simp only [h, if_false]
      exact r.nod j e
  · rw [kd_wipe] at e
    by_cases h : j ∈ m
    · rw [if_pos h] at e
      cases e
    · rw [if_neg h] at e
      simp only [h, if_false]
      exact r.rot j e
  · rw [ow] at ha
    by_cases h : j ∈ m
    · simp [h] at ha
    · rw [if_neg h] at ha
      by_cases hl : l ∈ m
      · simp [hl]
      · simp only [hl, if_false]
        exact r.sep j l n a ha
  · rw [ow] at ha
    by_cases h : j ∈ m
    · simp [h] at ha
    · rw [if_neg h] at ha
      exact (r.tmp t ht).2 j a ha
  · by_cases h : j ∈ m
    · simp [h] at ha
    · simp only [h, if_false] at ha
      exact r.prv j a ha
/-- slots that others may know, too -/
def downE (E : Sto) : List Nat → Sto
  | [] => E
  | j :: js => match slot (downE E js) j with
    | some (d, _) => (downE E js).set j (some (d, .shr))
    | none => downE E js
theorem slot_lt {E : Sto} {i : Nat} {x : Dat × Kd} (h : slot E i = some x) : i < E.length := (List.getElem?_eq_some_iff.mp (slot_some h)).1
theorem downE_at {E : Sto} : ∀ {m : List Nat} {j : Nat}, slot (downE E m) j = if j ∈ m then (slot E j).map (fun x => (x.1, Kd.shr)) else slot E j
  | [], j => by simp [downE]
  | i :: m, j => by
    unfold downE
    cases e : slot (downE E m) i with
    | none =>
      rw [downE_at] at e ⊢
      by_cases h : j = i
      · subst h
        by_cases hm : j ∈ m
        · simp [hm]
        · simp only [hm, if_false] at e
          simp [hm, e]
      · by_cases hm : j ∈ m <;> simp [h, hm]
    | some x =>
      obtain ⟨d, k⟩ := x
      simp only
      rw [slot_set (slot_lt e)]
      by_cases h : j = i
      · subst h
        rw [if_pos rfl]
        rw [downE_at] at e
        by_cases hm : j ∈ m
        · simp only [hm, if_true] at e
          cases es : slot E j with
          | none =>
            rw [es] at e
            cases e
          | some y =>
            rw [es] at e
            simp at e
            simp [e.1]
        · simp only [hm, if_false] at e
          simp [e]
      · rw [if_neg h, downE_at]
        by_cases hm : j ∈ m <;> simp [h, hm]
theorem downE_len {E : Sto} : ∀ {m : List Nat}, (downE E m).length = E.length
  | [] => rfl
  | i :: m => by
    unfold downE
    split
    · rw [List.length_set, downE_len]
    · exact downE_len
theorem kd_down {E : Sto} {m : List Nat} {j : Nat} : kd (downE E m) j = if j ∈ m then .shr else kd E j := by
  unfold kd
  rw [downE_at]
  by_cases h : j ∈ m
  · simp only [h, if_true]
    cases slot E j <;> rfl
  · simp [h]
theorem R.down {G : Glo} {B : Fx} {E : Sto} {σ : L2.St} {H : Hp} {F : Fp} (r : R G B E σ H F) (m : List Nat) : R G B (downE E m) σ H F := by
  have ow : ∀ j, ∀ a ∈ Ow (downE E m) F j, j ∉ m ∧ a ∈ Ow E F j := by
    intro j a ha
    unfold Ow at ha ⊢
    rw [kd_down] at ha
    by_cases h : j ∈ m
    · simp [h, owK] at ha
    · rw [if_neg h] at ha
      exact ⟨h, ha⟩
  refine ⟨⟨by rw [downE_len, r.rep.len], fun j d k e => ?_, fun j e => ?_⟩, fun j a ha => r.own j a (ow j a ha).2, fun j e => ?_, fun j e => ?_, fun j l n a ha => r.sep j l n a (ow j a ha).2, r.pro, fun t ht => ⟨(r.tmp t ht).1, fun j a ha => (r.tmp t ht).2 j a (ow j a ha).2⟩, r.prv, r.frm⟩
  · rw [downE_at] at e
    by_cases h : j ∈ m
    · rw [if_pos h] at e
      cases es : slot E j with
      | none =>
        rw [es] at e
        cases e
      | some y =>
        obtain ⟨d', k'⟩ := y
        rw [es] at e
        simp at e
        obtain ⟨v, q1, q2⟩ := r.rep.rep j d' k' es
        rw [← e.1]
        exact ⟨v, q1, q2⟩
    · rw [if_neg h] at e
      exact r.rep.rep j d k e
  · rw [downE_at] at e
    by_cases h : j ∈ m
    · rw [if_pos h] at e
      cases es : slot E j with
      | none => exact r.rep.emp j es
      | some y =>
        rw [es] at e
        cases e
    · rw [if_neg h] at e
      exact r.rep.emp j e
  · rw [kd_down] at e
    by_cases h : j ∈ m
    · rw [if_pos h] at e
      cases e
    · rw [if_neg h] at e
      exact r.nod j e
  · rw [kd_down] at e
    by_cases h : j ∈ m
    · rw [if_pos h] at e
      cases e
    · rw [if_neg h] at e
      exact r.rot j e
/-- a value taken: what it holds of slots goes with it, or is known to others from now on -/
def take (keep : Bool) (r : Rs) (E : Sto) : Sto × Kd := match r.mv with
  | some m => if (m == [] || !keep) && m.all (fun j => kd E j == .deep) && decide m.Nodup then (wipeE E m, .deep) else (downE E r.src, if r.rt then .root else .shr)
  | none => (downE E r.src, if r.rt then .root else .shr)
theorem flat_nodup {F : Fp} : ∀ {m : List Nat}, m.Nodup → (∀ i ∈ m, (F i).Nodup) → (∀ i ∈ m, ∀ j ∈ m, i ≠ j → ∀ a ∈ F i, a ∉ F j) → (m.map F).flatten.Nodup
  | [], _, _, _ => .nil
  | i :: m, n, h1, h2 => by
    obtain ⟨n1, n2⟩ := List.nodup_cons.mp n
    rw [List.map_cons, List.flatten_cons]
    refine List.nodup_append.mpr ⟨h1 i (by simp), flat_nodup n2 (fun j hj => h1 j (by simp [hj])) (fun j hj l hl => h2 j (by simp [hj]) l (by simp [hl])), fun a ha b hb e => ?_⟩
    subst e
    obtain ⟨l, hl, hal⟩ := List.mem_flatten.mp hb
    obtain ⟨j, hj, e⟩ := List.mem_map.mp hl
    subst e
    exact h2 i (by simp) j (by simp [hj]) (fun e => n1 (by rw [e]; exact hj)) a ha hal
theorem R.take {G : Glo} {B : Fx} {E : Sto} {σ : L2.St} {H H' : Hp} {F : Fp} {r : Rs} {v : V} {fp : List Addr} (keep : Bool) (x : R G B E σ H F) (s : Same H H') (g : Gv G H F r v H' fp) :
    ∃ F1, R G B (take keep r E).1 σ H' F1 ∧ Hand G B (take keep r E).1 F1 H' r.d (take keep r E).2 v fp := by
  have tr : ∀ t ∈ B.T, ∀ a ∈ t.2, H a ≠ none := fun t ht a ha => (x.pro t ht).trk H (x.tmp t ht).1 a ha
  have pr : ∀ a ∈ fp, B.H0 a = none ∨ B.P a := fun a ha => by
    rcases g.prv.src a ha with q | ⟨i, _, q⟩
    · exact .inl (x.frm.new q)
    · exact x.prv i a q
  have dn : ∃ F1, R G B (downE E r.src) σ H' F1 ∧ Hand G B (downE E r.src) F1 H' r.d (if r.rt then .root else .shr) v fp := by
    have key : ∀ a ∈ owK (if r.rt then Kd.root else Kd.shr) fp, H a = none ∧ Wr H' a := by
      intro a ha
      by_cases h : r.rt = true
      · rw [if_pos h] at ha
        obtain ⟨b, f, e, q1, q2, q3⟩ := g.prv.rt h
        rw [e] at ha
        have : a = b := by simpa [owK] using ha
        rw [this]
        exact ⟨q1, q2⟩
      · rw [if_neg h] at ha
        cases ha
    refine ⟨F, (x.same s).down r.src, g.rep, fun a ha => ⟨(key a ha).2, x.frm.new (key a ha).1⟩, fun e => ?_, fun e => ?_, fun a ha j z => x.rep.trk j a z (key a ha).1, fun j a ha z => ?_, fun t ht a ha z => tr t ht a z (key a ha).1, pr⟩
    · by_cases h : r.rt = true <;> simp [h] at e
    · by_cases h : r.rt = true
      · obtain ⟨b, f, e, q1, q2, q3⟩ := g.prv.rt h
        exact ⟨b, f, e, q3⟩
      · simp [h] at e
    · unfold Ow at ha
      rw [kd_down] at ha
      by_cases h : j ∈ r.src
      · simp [h, owK] at ha
      · rw [if_neg h] at ha
        rcases g.prv.src a z with q | ⟨i, hi, q⟩
        · exact x.rep.trk j a (owK_sub a ha) q
        · exact x.sep j i (fun e => h (by rw [e]; exact hi)) a ha q
  unfold PV.take
  cases em : r.mv with
  | none => exact dn
  | some m =>
    simp only
    by_cases hc : ((m == [] || !keep) && m.all (fun j => kd E j == .deep) && decide m.Nodup) = true
    · rw [if_pos hc]
      simp only [Bool.and_eq_true, decide_eq_true_eq] at hc
      obtain ⟨⟨_, hd⟩, hn⟩ := hc
      have hdeep : ∀ j ∈ m, kd E j = .deep := fun j hj => by
        have := List.all_eq_true.mp hd j hj
        simpa using this
      have hOw : ∀ j ∈ m, Ow E F j = F j := fun j hj => by
        unfold Ow
        rw [hdeep j hj]
        rfl
      obtain ⟨fr, p, nf, wf⟩ := g.prv.mv m em
      have mem : ∀ a ∈ fp, (a ∈ fr) ∨ ∃ i ∈ m, a ∈ F i := fun a ha => by
        rcases List.mem_append.mp (p.mem_iff.mp ha) with q | q
        · exact .inl q
        · obtain ⟨l, hl, hal⟩ := List.mem_flatten.mp q
          obtain ⟨i, hi, e⟩ := List.mem_map.mp hl
          subst e
          exact .inr ⟨i, hi, hal⟩
      refine ⟨_, (x.same s).kill m, g.rep, fun a ha => ?_, fun _ => ?_, (fun e => by cases e), fun a ha j z => ?_, fun j a ha z => ?_, fun t ht a ha z => ?_, pr⟩
      · rcases mem a ha with q | ⟨i, hi, q⟩
        · exact ⟨(wf a q).2, x.frm.new (wf a q).1⟩
        · have := x.own i a (by rw [hOw i hi]; exact q)
          exact ⟨this.1.same s, this.2⟩
      · refine p.nodup_iff.mpr (List.nodup_append.mpr ⟨nf, flat_nodup hn (fun i hi => x.nod i (hdeep i hi)) (fun i hi j hj n a ha => x.sep i j n a (by rw [hOw i hi]; exact ha)), fun a ha b hb e => ?_⟩)
        subst e
        obtain ⟨l, hl, hal⟩ := List.mem_flatten.mp hb
        obtain ⟨i, hi, e⟩ := List.mem_map.mp hl
        subst e
        exact x.rep.trk i a hal (wf a ha).1
      · by_cases hj : j ∈ m
        · simp [hj] at z
        · simp only [hj, if_false] at z
          rcases mem a ha with q | ⟨i, hi, q⟩
          · exact x.rep.trk j a z (wf a q).1
          · exact x.sep i j (fun e => hj (by rw [← e]; exact hi)) a (by rw [hOw i hi]; exact q) z
      · unfold Ow at ha
        rw [kd_wipe] at ha
        by_cases hj : j ∈ m
        · simp [hj, owK] at ha
        · rw [if_neg hj] at ha
          simp only [hj, if_false] at ha
          rcases mem a z with q | ⟨i, hi, q⟩
          · exact x.rep.trk j a (owK_sub a ha) (wf a q).1
          · exact x.sep j i (fun e => hj (by rw [e]; exact hi)) a ha q
      · rcases mem a ha with q | ⟨i, hi, q⟩
        · exact tr t ht a z (wf a q).1
        · exact (x.tmp t ht).2 i a (by rw [hOw i hi]; exact q) z
    · rw [if_neg hc]
      exact dn
end PV

/-! PV11: statements over pure data: the judgement, blocks, stores, loops, calls. -/
namespace PV
open PySem PySem.Spec L2
inductive Fl where
  | nx (E : Sto) | rt (d : Dat) (deep : Bool) | bk (E : Sto) | ct (E : Sto)
def RPost (G : Glo) (B : Fx) (d : Dat) (dp : Bool) (v : V) (H' : Hp) : Prop :=
  ∃ fp, Rep G H' d v fp ∧ (dp = true → fp.Nodup ∧ ∀ a ∈ fp, Wr H' a ∧ B.H0 a = none) ∧ (∀ a ∈ fp, B.H0 a = none ∨ B.P a) ∧ Frm B H'
def OutS (X : Cx) (W : WX) (B : Fx) (D : Ends) (o : Res Fl) : Prop := match o with
  | .ok (.nx E') => ∀ σ' H' F', R (glo X) B E' σ' H' F' → D.nx σ' H'
  | .ok (.rt d dp) => ∀ v H', RPost (glo X) B d dp v H' → D.rt v H'
  | .ok (.bk E') => ∀ σ' H' F', R (glo X) B E' σ' H' F' → D.bk σ' H'
  | .ok (.ct E') => ∀ σ' H' F', R (glo X) B E' σ' H' F' → D.ct σ' H'
  | .exc c => ∀ C σ' H', X.mg (mkS c) = some (.ref C) → Frm B H' → W (.ref C) none σ' H'
  | .no => False
def tEs (X : Cx) (W : WX) (g : Sto → Res Fl) : TS := fun D σ H => ∃ B E F, R (glo X) B E σ H F ∧ OutS X W B D (g E)
structure Es (X : Cx) (W : WX) (st : Stmt) (g : Sto → Res Fl) : Prop where
  ps : PS X st (tEs X W g)
structure Ess (X : Cx) (W : WX) (st : List Stmt) (g : Sto → Res Fl) : Prop where
  pss : PSs X st (tEs X W g)
section
variable {X : Cx} {W : WX} {k : Nat}
def sNil : Sto → Res Fl := fun E => .ok (.nx E)
def sSeq (g h : Sto → Res Fl) : Sto → Res Fl := fun E => (g E).bind fun fl => match fl with
  | .nx E' => h E'
  | fl => .ok fl
theorem ess_nil : Ess X W [] sNil := ⟨weakSs pss_nil fun D σ H ⟨B, E, F, r, o⟩ => o σ H F r⟩
theorem ess_cons {st : Stmt} {rest : List Stmt} {g h : Sto → Res Fl} (a : Es X W st g) (b : Ess X W rest h) : Ess X W (st :: rest) (sSeq g h) := by
  refine ⟨weakSs (pss_cons a.ps b.pss) fun D σ H ⟨B, E, F, r, o⟩ => ⟨B, E, F, r, ?_⟩⟩
  unfold sSeq at o
  cases e : g E with
  | no =>
    rw [e] at o
    exact o
  | exc c =>
    rw [e] at o
    exact o
  | ok fl =>
    rw [e] at o
    cases fl with
    | nx E' => exact fun σ' H' F' r' => ⟨B, E', F', r', o⟩
    | rt d dp => exact o
    | bk E' => exact o
    | ct E' => exact o
theorem ess_one {st : Stmt} {g : Sto → Res Fl} (a : Es X W st g) : Ess X W [st] g := ⟨pss_one a.ps⟩
/-- an expression first -/
theorem seqS {f : Sto → Res Rs} {B : Fx} {E : Sto} {F : Fp} {σ : L2.St} {H : Hp} {kk : Rs → Res Fl} {D : Ends} {Q' : VK} (r : R (glo X) B E σ H F) (o : OutS X W B D ((f E).bind kk))
    (h : ∀ rs v H1 fp, f E = .ok rs → Same H H1 → Gv (glo X) H F rs v H1 fp → OutS X W B D (kk rs) → Q' v H1) : tEv X W f σ H Q' := by
  refine ⟨E, F, r.rep, ?_⟩
  cases e : f E with
  | no =>
    rw [e] at o
    exact o
  | exc c =>
    rw [e] at o
    exact fun C H' m s => o C σ H' m (r.frm.same s)
  | ok rs =>
    intro v H1 fp s1 g
    rw [e] at o
    exact h rs v H1 fp e s1 g o
theorem seqSB {f : Sto → Res Bool} {B : Fx} {E : Sto} {F : Fp} {σ : L2.St} {H : Hp} {kk : Bool → Res Fl} {D : Ends} {Q' : Bool → Hp → Prop} (r : R (glo X) B E σ H F) (o : OutS X W B D ((f E).bind kk))
    (h : ∀ b H1, f E = .ok b → Same H H1 → OutS X W B D (kk b) → Q' b H1) : tEt X W f σ H Q' := by
  refine ⟨E, F, r.rep, ?_⟩
  cases e : f E with
  | no =>
    rw [e] at o
    exact o
  | exc c =>
    rw [e] at o
    exact fun C H' m s => o C σ H' m (r.frm.same s)
  | ok b =>
    intro H1 s1
    rw [e] at o
    exact h b H1 e s1 o
def sPass : Sto → Res Fl := fun E => .ok (.nx E)
def sBrk : Sto → Res Fl := fun E => .ok (.bk E)
def sCnt : Sto → Res Fl := fun E => .ok (.ct E)
theorem es_pass {pos : Pos} : Es X W (.Pass pos) sPass := ⟨weakS ps_pass fun D σ H ⟨B, E, F, r, o⟩ => o σ H F r⟩
theorem es_break {pos : Pos} : Es X W (.Break pos) sBrk := ⟨weakS ps_break fun D σ H ⟨B, E, F, r, o⟩ => o σ H F r⟩
theorem es_continue {pos : Pos} : Es X W (.Continue pos) sCnt := ⟨weakS ps_continue fun D σ H ⟨B, E, F, r, o⟩ => o σ H F r⟩
def sDrop (f : Sto → Res Rs) : Sto → Res Fl := fun E => (f E).bind fun _ => .ok (.nx E)
theorem es_drop {e : Expr} {pos : Pos} {f : Sto → Res Rs} (he : Ev X W e f) (hs : swapsWith e none pos.line X.env = pure false := by rfl) : Es X W (.Expr e pos) (sDrop f) :=
  ⟨weakS (ps_expr he.pe hs) fun D σ H ⟨B, E, F, r, o⟩ => seqS r o fun rs v H1 fp e1 s1 g o1 => o1 σ H1 F (r.same s1)⟩
def sRet (f : Sto → Res Rs) : Sto → Res Fl := fun E => (f E).bind fun r => .ok (.rt r.d (decide ((PV.take false r E).2 = .deep)))
theorem Hand.post {G : Glo} {B : Fx} {E : Sto} {σ : L2.St} {F : Fp} {H : Hp} {d : Dat} {kd : Kd} {v : V} {fp : List Addr} (r : R G B E σ H F) (h : Hand G B E F H d kd v fp) : RPost G B d (decide (kd = .deep)) v H :=
  ⟨fp, h.rep, fun e => by
    have e := of_decide_eq_true e
    subst e
    exact ⟨h.nod rfl, fun a ha => h.own a ha⟩, h.prv, r.frm⟩
theorem es_ret {e : Expr} {pos : Pos} {f : Sto → Res Rs} (he : Ev X W e f) : Es X W (.Return (some e) pos) (sRet f) :=
  ⟨weakS (ps_ret he.pe) fun D σ H ⟨B, E, F, r, o⟩ => seqS r o fun rs v H1 fp e1 s1 g o1 => by
    obtain ⟨F1, r1, h1⟩ := r.take false s1 g
    exact o1 v H1 (h1.post r1)⟩
def sRetN : Sto → Res Fl := fun _ => .ok (.rt .non true)
theorem es_retN {pos : Pos} : Es X W (.Return none pos) sRetN :=
  ⟨weakS ps_retN fun D σ H ⟨B, E, F, r, o⟩ => o .non H ⟨[], mk_non, fun _ => ⟨.nil, (fun _ z => nomatch z)⟩, (fun _ z => nomatch z), r.frm⟩⟩
def sIf (t : Sto → Res Bool) (g h : Sto → Res Fl) : Sto → Res Fl := fun E => (t E).bind fun b => if b then g E else h E
theorem es_if {c : Expr} {a b : List Stmt} {pos : Pos} {t : Sto → Res Bool} {g h : Sto → Res Fl} (hc : Et X W c t) (ha : Ess X W a g) (hb : Ess X W b h) : Es X W (.If c a b pos) (sIf t g h) := by
  refine ⟨weakS (ps_if hc.pt ha.pss hb.pss) fun D σ H ⟨B, E, F, r, o⟩ => seqSB r o fun b H1 e1 s1 o1 => ?_⟩
  cases b with
  | true =>
    rw [if_pos rfl]
    exact ⟨B, E, F, r.same s1, o1⟩
  | false =>
    rw [if_neg Bool.false_ne_true]
    exact ⟨B, E, F, r.same s1, o1⟩
/-! ### stores -/
def sSet (keep : Bool) (i : Nat) (f : Sto → Res Rs) : Sto → Res Fl := fun E => (f E).bind fun r =>
  if i < (PV.take keep r E).1.length then .ok (.nx ((PV.take keep r E).1.set i (some (r.d, (PV.take keep r E).2)))) else .no
/-- a store's reading, however the value is made -/
structure PAsg (X : Cx) (W : WX) (st : Stmt) (i : Nat) (f : Sto → Res Rs) : Prop where
  ps : PS X st (tAsg (tEv X W f) (gName i))
theorem es_set (keep : Bool) {st : Stmt} {i : Nat} {f : Sto → Res Rs} (p : PAsg X W st i f) : Es X W st (sSet keep i f) := by
  refine ⟨weakS p.ps fun D σ H ⟨B, E, F, r, o⟩ => seqS r o fun rs v H1 fp e1 s1 g o1 => ?_⟩
  obtain ⟨F1, r1, h1⟩ := r.take keep s1 g
  by_cases hi : i < (PV.take keep rs E).1.length
  · rw [if_pos hi] at o1
    exact o1 _ H1 _ (r1.put h1 hi)
  · rw [if_neg hi] at o1
    exact o1.elim
theorem pasg {i : Nat} {x : Str} {e : Expr} {pos pos' : Pos} {f : Sto → Res Rs} (C : XOk k X) (he : Ev X W e f) (hi : X.N[i]? = some x := by rfl) (hx : Loc X.env.scope x := by first | exact Or.inl rfl | exact Or.inr rfl) (hs : swapsWith e (some (.Name x pos')) pos.line X.env = pure false := by rfl)
    (hf : X.fn x = true ∨ X.env.scope.names.lookup x = some .local := by first | exact .inl rfl | exact .inr rfl) : PAsg X W (.Assign [.Name x pos'] e pos) i f := ⟨ps_set C.nd hi hx he.pe hs hf⟩
theorem pasgC {i : Nat} {y : Str} {py : Pos} {T : Tgt} {own : List (Str × Nat)} {elt tg iter : Expr} {ifs : List Expr} {scope : Scope} {pos spos : Pos} {fi : Sto → Res (List Dat × List Nat)} {ft : Sto → Res Bool} {fe : Sto → Res Rs} (C : XOk k X) (c : CompOk X W T own elt tg iter ifs scope fi ft fe)
    (hyl : X.env.scope.names.lookup y = some .local) (hk : X.env.scope.kind = .function) (hl : (py.line == pos.line) = true) (ha : (scope.names.any fun (n, k) => n == y && (k == .local || k == .cell)) = false)
    (hy : X.N[i]? = some y := by rfl) (hs : ∀ x, foldedSetIterable iter X.env x = pure x := by intro _; rfl) :
    PAsg X W (.Assign [.Name y py] (.ListComp elt [⟨tg, iter, ifs, 0⟩] scope pos) spos) i (fComp T (own.map (·.2)) fi ft fe) := by
  refine ⟨weakS (ps_setLc C.calm C.nd hy hyl (sw_true hk hyl hl ha) c.pi c.blk c.tgt c.tst c.elt hs) fun D σ H h => ?_⟩
  exact comp_lc c.sub h
/-- a, b = (x, y): plain local names -/
def sPar (is : List Nat) (f : Sto → Res (List Rs)) : Sto → Res Fl := fun E => (f E).bind fun rs =>
  match bindK is (rs.map (·.d)) (PV.take false (rTup rs) E).2 (PV.take false (rTup rs) E).1 with
  | some E' => .ok (.nx E')
  | none => .no
where
  bindK : List Nat → List Dat → Kd → Sto → Option Sto
    | [], [], _, E => some E
    | i :: is, d :: ds, kk, E => if i < E.length ∧ i ∉ is then bindK is ds kk (E.set i (some (d, if kk = .deep then .deep else .shr))) else none
    | _, _, _, _ => none
def sets (σ : L2.St) : List Nat → List V → L2.St
  | i :: is, v :: vs => sets (σ.set i (some v)) is vs
  | _, _ => σ
/-- the parts of what is in hand, into slots one by one -/
theorem put_all {G : Glo} {B : Fx} {H : Hp} {kk : Kd} : ∀ {is : List Nat} {ds : List Dat} {vs : List V} {fp : List Addr} {E E' : Sto} {σ : L2.St} {F : Fp}, R G B E σ H F → RepL G H ds vs fp → (kk = .deep → fp.Nodup ∧ ∀ a ∈ fp, Wr H a ∧ B.H0 a = none) → (kk = .deep → ∀ a ∈ fp, ∀ j, a ∉ F j) → (kk = .deep → ∀ t ∈ B.T, ∀ a ∈ fp, a ∉ t.2) →
    (∀ j, ∀ a ∈ Ow E F j, a ∉ fp) → (∀ a ∈ fp, B.H0 a = none ∨ B.P a) → sPar.bindK is ds kk E = some E' → ∃ F', R G B E' (sets σ is vs) H F'
  | [], [], vs, fp, E, E', σ, F, r, rl, _, _, _, _, _, e => by
    simp only [sPar.bindK] at e
    cases e
    simp only [RepL] at rl
    rw [rl.1]
    exact ⟨F, r⟩
  | [], _ :: _, _, _, _, _, _, _, _, _, _, _, _, _, _, e => by simp only [sPar.bindK] at e; cases e
  | _ :: _, [], _, _, _, _, _, _, _, _, _, _, _, _, _, e => by simp only [sPar.bindK] at e; cases e
  | i :: is, d :: ds, vs, fp, E, E', σ, F, r, rl, h1, h2, h3, h4, h5, e => by
    simp only [RepL] at rl
    obtain ⟨v, vs', f, f', e1, e2, rd, rr⟩ := rl
    subst e1
    subst e2
    simp only [sPar.bindK] at e
    by_cases hi : i < E.length ∧ i ∉ is
    · rw [if_pos hi] at e
      have hd : Hand G B E F H d (if kk = .deep then .deep else .shr) v f := by
        by_cases hk : kk = .deep
        · rw [if_pos hk]
          obtain ⟨n, w⟩ := h1 hk
          exact ⟨rd, fun a ha => w a (by simp [show a ∈ f from ha]), fun _ => (List.nodup_append.mp n).1, (fun z => by cases z), fun a ha j => h2 hk a (by simp [show a ∈ f from ha]) j, fun j a ha z => h4 j a ha (by simp [z]), fun t ht a ha => h3 hk t ht a (by simp [show a ∈ f from ha]), fun a ha => h5 a (by simp [ha])⟩
        · rw [if_neg hk]
          exact ⟨rd, (fun a ha => nomatch ha), (fun z => by cases z), (fun z => by cases z), (fun a ha => nomatch ha), fun j a ha z => h4 j a ha (by simp [z]), (fun t ht a ha => nomatch ha), fun a ha => h5 a (by simp [ha])⟩
      have r1 := r.put hd hi.1
      show ∃ F', R G B E' (sets (σ.set i (some v)) is vs') H F'
      refine put_all r1 rr (fun hk => ⟨(List.nodup_append.mp (h1 hk).1).2.1, fun a ha => (h1 hk).2 a (by simp [ha])⟩) (fun hk a ha j z => ?_) (fun hk t ht a ha => h3 hk t ht a (by simp [ha])) (fun j a ha z => ?_) (fun a ha => h5 a (by simp [ha])) e
      · by_cases hj : j = i
        · simp only [hj, if_true] at z
          exact (List.nodup_append.mp (h1 hk).1).2.2 a z a ha rfl
        · simp only [hj, if_false] at z
          exact h2 hk a (by simp [ha]) j z
      · unfold Ow at ha
        rw [kd_set hi.1] at ha
        by_cases hj : j = i
        · simp only [hj, if_true] at ha
          by_cases hk : kk = .deep
          · rw [if_pos hk] at ha
            exact (List.nodup_append.mp (h1 hk).1).2.2 a ha a z rfl
          · rw [if_neg hk] at ha
            cases ha
        · simp only [hj, if_false] at ha
          exact h4 j a ha (by simp [z])
    · rw [if_neg hi] at e
      cases e
theorem seqSA {f : Sto → Res (List Rs)} {B : Fx} {E : Sto} {F : Fp} {σ : L2.St} {H : Hp} {kk : List Rs → Res Fl} {D : Ends} {Q' : List V → Hp → Prop} (r : R (glo X) B E σ H F) (o : OutS X W B D ((f E).bind kk))
    (h : ∀ rs vs H1 fp, f E = .ok rs → Same H H1 → GvL (glo X) H F rs vs H1 fp → OutS X W B D (kk rs) → Q' vs H1) : tEa X W f σ H Q' := by
  refine ⟨E, F, r.rep, ?_⟩
  cases e : f E with
  | no =>
    rw [e] at o
    exact o
  | exc c =>
    rw [e] at o
    exact fun C H' m s => o C σ H' m (r.frm.same s)
  | ok rs =>
    intro v H1 fp s1 g
    rw [e] at o
    exact h rs v H1 fp e s1 g o
/-- several values, as a tuple of them would be taken -/
theorem R.takeL {G : Glo} {B : Fx} {E : Sto} {σ : L2.St} {H H' : Hp} {F : Fp} {rs : List Rs} {vs : List V} {fp : List Addr} {is : List Nat} {E' : Sto} (x : R G B E σ H F) (s : Same H H') (g : GvL G H F rs vs H' fp)
    (e : sPar.bindK is (rs.map (·.d)) (PV.take false (rTup rs) E).2 (PV.take false (rTup rs) E).1 = some E') : ∃ F', R G B E' (sets σ is vs) H' F' := by
  obtain ⟨p1, p2⟩ := g.prov (fun i => x.rep.trk i)
  -- a tuple of them that nobody holds: only for the account
  have gv : ∀ (p : Addr), H' p = none → Gv G H F (rTup rs) (.ref p) (upd H' p (.tup vs)) fp := fun p hp => by
    refine ⟨?_, p1, (fun z => nomatch z), fun m em => ?_⟩
    · show Rep G (upd H' p (.tup vs)) (.tup (rs.map (·.d))) (.ref p) fp
      simp only [Rep]
      exact ⟨p, vs, rfl, .inl (.inl upd_same), g.reps.same (same_new hp)⟩
    · obtain ⟨fr, q1, q2, q3⟩ := p2 m em
      exact ⟨fr, q1, q2, fun a ha => ⟨(q3 a ha).1, (q3 a ha).2.same (same_new hp)⟩⟩
  -- the account itself needs no such tuple
  have key : ∃ F1, R G B (PV.take false (rTup rs) E).1 σ H' F1 ∧ ((PV.take false (rTup rs) E).2 = .deep → fp.Nodup ∧ ∀ a ∈ fp, Wr H' a ∧ B.H0 a = none) ∧ ((PV.take false (rTup rs) E).2 = .deep → ∀ a ∈ fp, ∀ j, a ∉ F1 j) ∧ ((PV.take false (rTup rs) E).2 = .deep → ∀ t ∈ B.T, ∀ a ∈ fp, a ∉ t.2) ∧
      (∀ j, ∀ a ∈ Ow (PV.take false (rTup rs) E).1 F1 j, a ∉ fp) ∧ (∀ a ∈ fp, B.H0 a = none ∨ B.P a) := by
    have tr : ∀ t ∈ B.T, ∀ a ∈ t.2, H a ≠ none := fun t ht a ha => (x.pro t ht).trk H (x.tmp t ht).1 a ha
    have pr : ∀ a ∈ fp, B.H0 a = none ∨ B.P a := fun a ha => by
      rcases p1 a ha with q | ⟨i, _, q⟩
      · exact .inl (x.frm.new q)
      · exact x.prv i a q
    have dn : ∃ F1, R G B (downE E (rTup rs).src) σ H' F1 ∧ (Kd.shr = .deep → fp.Nodup ∧ ∀ a ∈ fp, Wr H' a ∧ B.H0 a = none) ∧ (Kd.shr = .deep → ∀ a ∈ fp, ∀ j, a ∉ F1 j) ∧ (Kd.shr = .deep → ∀ t ∈ B.T, ∀ a ∈ fp, a ∉ t.2) ∧
        (∀ j, ∀ a ∈ Ow (downE E (rTup rs).src) F1 j, a ∉ fp) ∧ (∀ a ∈ fp, B.H0 a = none ∨ B.P a) := by
      refine ⟨F, (x.same s).down _, (fun z => by cases z), (fun z => by cases z), (fun z => by cases z), fun j a ha z => ?_, pr⟩
      unfold Ow at ha
      rw [kd_down] at ha
      by_cases h : j ∈ (rTup rs).src
      · simp [h, owK] at ha
      · rw [if_neg h] at ha
        rcases p1 a z with q | ⟨i, hi, q⟩
        · exact x.rep.trk j a (owK_sub a ha) q
        · exact x.sep j i (fun e => h (by rw [e]; exact hi)) a ha q
    unfold PV.take
    cases em : (rTup rs).mv with
    | none => exact dn
    | some m =>
      simp only
      by_cases hc : ((m == [] || !false) && m.all (fun j => kd E j == .deep) && decide m.Nodup) = true
      · rw [if_pos hc]
        simp only [Bool.and_eq_true, decide_eq_true_eq] at hc
        obtain ⟨⟨_, hd⟩, hn⟩ := hc
        have hdeep : ∀ j ∈ m, kd E j = .deep := fun j hj => by
          have := List.all_eq_true.mp hd j hj
          simpa using this
        have hOw : ∀ j ∈ m, Ow E F j = F j := fun j hj => by
          unfold Ow
          rw [hdeep j hj]
          rfl
        obtain ⟨fr, p, nf, wf⟩ := p2 m em
        have mem : ∀ a ∈ fp, (a ∈ fr) ∨ ∃ i ∈ m, a ∈ F i := fun a ha => by
          rcases List.mem_append.mp (p.mem_iff.mp ha) with q | q
          · exact .inl q
          · obtain ⟨l, hl, hal⟩ := List.mem_flatten.mp q
            obtain ⟨i, hi, e⟩ := List.mem_map.mp hl
            subst e
            exact .inr ⟨i, hi, hal⟩
        refine ⟨_, (x.same s).kill m, fun _ => ⟨?_, fun a ha => ?_⟩, fun _ a ha j z => ?_, fun _ t ht a ha z => ?_, fun j a ha z => ?_, pr⟩
        · refine p.nodup_iff.mpr (List.nodup_append.mpr ⟨nf, flat_nodup hn (fun i hi => x.nod i (hdeep i hi)) (fun i hi j hj n a ha => x.sep i j n a (by rw [hOw i hi]; exact ha)), fun a ha b hb e => ?_⟩)
          subst e
          obtain ⟨l, hl, hal⟩ := List.mem_flatten.mp hb
          obtain ⟨i, hi, e⟩ := List.mem_map.mp hl
          subst e
          exact x.rep.trk i a hal (wf a ha).1
        · rcases mem a ha with q | ⟨i, hi, q⟩
          · exact ⟨(wf a q).2, x.frm.new (wf a q).1⟩
          · have := x.own i a (by rw [hOw i hi]; exact q)
            exact ⟨this.1.same s, this.2⟩
        · by_cases hj : j ∈ m
          · simp [hj] at z
          · simp only [hj, if_false] at z
            rcases mem a ha with q | ⟨i, hi, q⟩
            · exact x.rep.trk j a z (wf a q).1
            · exact x.sep i j (fun e => hj (by rw [← e]; exact hi)) a (by rw [hOw i hi]; exact q) z
        · rcases mem a ha with q | ⟨i, hi, q⟩
          · exact tr t ht a z (wf a q).1
          · exact (x.tmp t ht).2 i a (by rw [hOw i hi]; exact q) z
        · unfold Ow at ha
          rw [kd_wipe] at ha
          by_cases hj : j ∈ m
          · simp [hj, owK] at ha
          · rw [if_neg hj] at ha
            simp only [hj, if_false] at ha
            rcases mem a z with q | ⟨i, hi, q⟩
            · exact x.rep.trk j a (owK_sub a ha) (wf a q).1
            · exact x.sep j i (fun e => hj (by rw [e]; exact hi)) a ha q
      · rw [if_neg hc]
        exact dn
  obtain ⟨F1, r1, k1, k2, k3, k4, k5⟩ := key
  exact put_all r1 g.reps k1 k2 k3 k4 k5 e
theorem es_par2 (C : XOk k X) {i j : Nat} {x y : Str} {a b : Expr} {f : Sto → Res (List Rs)} {px py pt pos : Pos} {kt k2 pt2} (ha : Ea X W [a, b] f) (hij : i ≠ j)
    (hx : X.env.scope.names.lookup x = some .local) (hy : X.env.scope.names.lookup y = some .local)
    (hw : swappedStores [.Tuple [.Name x px, .Name y py] kt pt] (.Tuple [a, b] k2 pt2) X.env = pure (some [x, y])) (hi : X.N[i]? = some x := by rfl) (hj : X.N[j]? = some y := by rfl)
    (hs : swapsWithSole [.Tuple [.Name x px, .Name y py] kt pt] (.Tuple [a, b] k2 pt2) pos.line X.env = pure false := by rfl) :
    Es X W (.Assign [.Tuple [.Name x px, .Name y py] kt pt] (.Tuple [a, b] k2 pt2) pos) (sPar [i, j] f) := by
  refine ⟨weakS (ps_par C.calm C.nd hi hj hij hx hy ha.pa hw hs) fun D σ H ⟨B, E, F, r, o⟩ => seqSA r o fun rs vs H1 fp e1 s1 g o1 => ?_⟩
  cases eb : sPar.bindK [i, j] (rs.map (·.d)) (PV.take false (rTup rs) E).2 (PV.take false (rTup rs) E).1 with
  | none =>
    rw [eb] at o1
    exact o1.elim
  | some E' =>
    rw [eb] at o1
    obtain ⟨F', r'⟩ := r.takeL s1 g eb
    have hl := g.len
    have h2 : rs.length = 2 := by
      match rs, eb with
      | [], eb => simp [sPar.bindK] at eb
      | [_], eb => simp [sPar.bindK] at eb
      | [_, _], _ => rfl
      | _ :: _ :: _ :: _, eb => simp [sPar.bindK] at eb
    obtain ⟨u, v, e⟩ : ∃ u v, vs = [u, v] := by
      match vs, hl.trans h2 with
      | [u, v], _ => exact ⟨u, v, rfl⟩
    subst e
    exact ⟨u, v, rfl, o1 _ H1 F' r'⟩
theorem es_par3 (C : XOk k X) {i j l : Nat} {x y z : Str} {a b c : Expr} {f : Sto → Res (List Rs)} {px py pz pt pos : Pos} {kt k2 pt2} (ha : Ea X W [a, b, c] f) (hij : i ≠ j) (hil : i ≠ l) (hjl : j ≠ l)
    (hx : X.env.scope.names.lookup x = some .local) (hy : X.env.scope.names.lookup y = some .local) (hz : X.env.scope.names.lookup z = some .local)
    (hw : swappedStores [.Tuple [.Name x px, .Name y py, .Name z pz] kt pt] (.Tuple [a, b, c] k2 pt2) X.env = pure (some [x, y, z])) (hi : X.N[i]? = some x := by rfl) (hj : X.N[j]? = some y := by rfl) (hl : X.N[l]? = some z := by rfl)
    (hs : swapsWithSole [.Tuple [.Name x px, .Name y py, .Name z pz] kt pt] (.Tuple [a, b, c] k2 pt2) pos.line X.env = pure false := by rfl) :
    Es X W (.Assign [.Tuple [.Name x px, .Name y py, .Name z pz] kt pt] (.Tuple [a, b, c] k2 pt2) pos) (sPar [i, j, l] f) := by
  refine ⟨weakS (ps_par3 C.calm C.nd hi hj hl hij hil hjl hx hy hz ha.pa hw hs) fun D σ H ⟨B, E, F, r, o⟩ => seqSA r o fun rs vs H1 fp e1 s1 g o1 => ?_⟩
  cases eb : sPar.bindK [i, j, l] (rs.map (·.d)) (PV.take false (rTup rs) E).2 (PV.take false (rTup rs) E).1 with
  | none =>
    rw [eb] at o1
    exact o1.elim
  | some E' =>
    rw [eb] at o1
    obtain ⟨F', r'⟩ := r.takeL s1 g eb
    have hl := g.len
    have h2 : rs.length = 3 := by
      match rs, eb with
      | [], eb => simp [sPar.bindK] at eb
      | [_], eb => simp [sPar.bindK] at eb
      | [_, _], eb => simp [sPar.bindK] at eb
      | [_, _, _], _ => rfl
      | _ :: _ :: _ :: _ :: _, eb => simp [sPar.bindK] at eb
    obtain ⟨u, v, w, e⟩ : ∃ u v w, vs = [u, v, w] := by
      match vs, hl.trans h2 with
      | [u, v, w], _ => exact ⟨u, v, w, rfl⟩
    subst e
    exact ⟨u, v, w, rfl, o1 _ H1 F' r'⟩
end
end PV

/-! PV12: loops, raise, calls of own defs, what a def keeps. -/
namespace PV
open PySem PySem.Spec L2
section
variable {X : Cx} {W : WX} {k : Nat}
/-! ### while -/
def whileGo (t : Sto → Res Bool) (g : Sto → Res Fl) : Nat → Sto → Res Fl
  | 0, _ => .no
  | n + 1, E => (t E).bind fun b => if b then (g E).bind fun fl => match fl with
      | .nx E' => whileGo t g n E'
      | .ct E' => whileGo t g n E'
      | .bk E' => .ok (.nx E')
      | .rt d dp => .ok (.rt d dp)
    else .ok (.nx E)
theorem es_while (n : Nat) (po : PassesOwn (model X.prog X.w) X.A X.env X.xe) {c : Expr} {body : List Stmt} {pos : Pos} {t : Sto → Res Bool} {g : Sto → Res Fl} (hc : Et X W c t) (hb : Ess X W body g) : Es X W (.While c body [] pos) (whileGo t g n) := by
  refine ⟨weakS (ps_while po hc.pt hb.pss) fun D σ H ⟨B, E, F, r, o⟩ => ?_⟩
  refine ⟨fun m σ H => ∃ E F, R (glo X) B E σ H F ∧ OutS X W B D (whileGo t g m E), ⟨n, E, F, r, o⟩, ?_⟩
  rintro m σ1 H1 ⟨E1, F1, r1, o1⟩
  cases m with
  | zero => exact o1.elim
  | succ m =>
    refine seqSB r1 o1 fun b H2 e2 s2 o2 => ?_
    cases b with
    | false =>
      rw [if_neg Bool.false_ne_true] at o2 ⊢
      exact o2 σ1 H2 F1 (r1.same s2)
    | true =>
      rw [if_pos rfl] at o2 ⊢
      refine ⟨fun σ' H' => ∃ E F, R (glo X) B E σ' H' F ∧ OutS X W B D (whileGo t g m E), fun σ' H' q => ⟨m, Nat.lt_succ_self m, q⟩, B, E1, F1, r1.same s2, ?_⟩
      cases e3 : g E1 with
      | no =>
        rw [e3] at o2
        exact o2
      | exc c =>
        rw [e3] at o2
        exact o2
      | ok fl =>
        rw [e3] at o2
        cases fl with
        | nx E' => exact fun σ' H' F' r' => ⟨E', F', r', o2⟩
        | ct E' => exact fun σ' H' F' r' => ⟨E', F', r', o2⟩
        | bk E' => exact o2
        | rt d dp => exact o2
/-! ### for -/
def forGo (T : Tgt) (g : Sto → Res Fl) : List Dat → Sto → Res Fl
  | [], E => .ok (.nx E)
  | d :: ds, E => match bindT T d E with
    | none => .no
    | some E1 => (g E1).bind fun fl => match fl with
      | .nx E' => forGo T g ds E'
      | .ct E' => forGo T g ds E'
      | .bk E' => .ok (.nx E')
      | .rt d dp => .ok (.rt d dp)
def sFor (T : Tgt) (fi : Sto → Res (List Dat × List Nat)) (g : Sto → Res Fl) : Sto → Res Fl := fun E => (fi E).bind fun p => forGo T g p.1 (downE E p.2)
/-- within a loop: what it leans on must stand, too -/
def Fx.with (B : Fx) (t : (Hp → Prop) × List Addr) : Fx := ⟨B.H0, B.Lk, t :: B.T, B.P⟩
theorem R.less {G : Glo} {B : Fx} {t : (Hp → Prop) × List Addr} {E : Sto} {σ : L2.St} {H : Hp} {F : Fp} (r : R G (B.with t) E σ H F) : R G B E σ H F :=
  ⟨r.rep, r.own, r.nod, r.rot, r.sep, fun u hu => r.pro u (List.mem_cons_of_mem _ hu), fun u hu => r.tmp u (List.mem_cons_of_mem _ hu), r.prv, r.frm⟩
theorem R.more {G : Glo} {B : Fx} {t : (Hp → Prop) × List Addr} {E : Sto} {σ : L2.St} {H : Hp} {F : Fp} (r : R G B E σ H F) (p : Prot t) (h : t.1 H) (n : ∀ i, ∀ a ∈ Ow E F i, a ∉ t.2) : R G (B.with t) E σ H F :=
  ⟨r.rep, r.own, r.nod, r.rot, r.sep, fun u hu => (List.mem_cons.mp hu).elim (fun e => e ▸ p) (r.pro u), fun u hu => (List.mem_cons.mp hu).elim (fun e => e ▸ ⟨h, n⟩) (r.tmp u), r.prv, r.frm⟩
/-- a loop's names hold what is known to others -/
theorem R.bnd {G : Glo} {B : Fx} {E E1 : Sto} {σ σ1 : L2.St} {H : Hp} {F F1 : Fp} {l : List Nat} {f : List Addr} (r : R G B E σ H F) (b : Bnd G H E σ F l f E1 σ1 F1) (h1 : ∀ i, ∀ a ∈ Ow E F i, a ∉ f) (h2 : ∀ a ∈ f, B.H0 a = none ∨ B.P a) : R G B E1 σ1 H F1 := by
  have kk : ∀ j, kd E1 j = if j ∈ l then .shr else kd E j := by
    intro j
    by_cases h : j ∈ l
    · rw [if_pos h]
      unfold kd
      cases e : slot E1 j with
      | none => rfl
      | some x => exact b.kin j x.1 x.2 h e
    · rw [if_neg h]
      unfold kd
      rw [(b.out j h).2]
  have ow : ∀ j, ∀ a ∈ Ow E1 F1 j, j ∉ l ∧ a ∈ Ow E F j := by
    intro j a ha
    unfold Ow at ha ⊢
    rw [kk] at ha
    by_cases h : j ∈ l
    · rw [if_pos h] at ha
      cases ha
    · rw [if_neg h, (b.out j h).1] at ha
      exact ⟨h, ha⟩
  refine ⟨b.rep, fun i a ha => r.own i a (ow i a ha).2, fun i e => ?_, fun i e => ?_, fun i j n a ha z => ?_, r.pro, fun t ht => ⟨(r.tmp t ht).1, fun i a ha => (r.tmp t ht).2 i a (ow i a ha).2⟩, fun i a ha => ?_, r.frm⟩
  · rw [kk] at e
    by_cases h : i ∈ l
    · rw [if_pos h] at e
      cases e
    · rw [if_neg h] at e
      rw [(b.out i h).1]
      exact r.nod i e
  · rw [kk] at e
    by_cases h : i ∈ l
    · rw [if_pos h] at e
      cases e
    · rw [if_neg h] at e
      rw [(b.out i h).1]
      exact r.rot i e
  · obtain ⟨_, q⟩ := ow i a ha
    by_cases h : j ∈ l
    · exact h1 i a q (b.inn j h a z)
    · rw [(b.out j h).1] at z
      exact r.sep i j n a q z
  · by_cases h : i ∈ l
    · exact h2 a (b.inn i h a ha)
    · rw [(b.out i h).1] at ha
      exact r.prv i a ha
theorem OutS.less {B : Fx} {t : (Hp → Prop) × List Addr} {D : Ends} {o : Res Fl} (h : OutS X W B D o) : OutS X W (B.with t) D o := by
  cases o with
  | no => exact h
  | exc c => exact h
  | ok fl =>
    cases fl with
    | nx E' => exact fun σ' H' F' r' => h σ' H' F' r'.less
    | ct E' => exact fun σ' H' F' r' => h σ' H' F' r'.less
    | bk E' => exact fun σ' H' F' r' => h σ' H' F' r'.less
    | rt d dp => exact h
theorem es_for (po : PassesOwn (model X.prog X.w) X.A X.env X.xe) (C : XOk k X) {T : Tgt} {tg iter : Expr} {body : List Stmt} {pos : Pos} {fi : Sto → Res (List Dat × List Nat)} {g : Sto → Res Fl} (hi : Ei X W tg iter fi) (hg : PG X tg (gT X.K T)) (hb : Ess X W body g)
    (hs : ∀ x, foldedSetIterable iter X.env x = pure x := by intro _; rfl) : Es X W (.For tg iter body [] pos) (sFor T fi g) := by
  refine ⟨weakS (ps_for po C.calm hi.pi hg hb.pss hs) fun D σ H ⟨B, E, F, r, o⟩ => ?_⟩
  refine ⟨E, F, r.rep, ?_⟩
  unfold sFor at o
  cases e0 : fi E with
  | no =>
    rw [e0] at o
    exact o
  | exc c =>
    rw [e0] at o
    exact fun C' H' m s => o C' σ H' m (r.frm.same s)
  | ok p =>
    obtain ⟨items, src⟩ := p
    rw [e0] at o
    intro J H1 fp Gd s1 it
    have pro : Prot (Gd, fp) := ⟨it.keep, it.trk⟩
    have pfp : ∀ a ∈ fp, B.H0 a = none ∨ B.P a := fun a ha => by
      rcases it.src a ha with q | ⟨i, _, q⟩
      · exact .inl (r.frm.new q)
      · exact r.prv i a q
    have r1 : R (glo X) (B.with (Gd, fp)) (downE E src) σ H1 F := by
      refine ((r.same s1).down src).more pro it.now fun i a ha z => ?_
      unfold Ow at ha
      rw [kd_down] at ha
      by_cases h : i ∈ src
      · simp [h, owK] at ha
      · rw [if_neg h] at ha
        rcases it.src a z with q | ⟨j, hj, q⟩
        · exact r.rep.trk i a (owK_sub a ha) q
        · exact r.sep i j (fun e => h (by rw [e]; exact hj)) a ha q
    refine for_it it.walk (fun i σ' H' => ∃ E' F', R (glo X) (B.with (Gd, fp)) E' σ' H' F' ∧ OutS X W B D (forGo T g (items.drop i) E')) ⟨_, F, r1, (show OutS X W B D (forGo T g (items.drop 0) (downE E src)) from by rw [List.drop_zero]; exact o)⟩ (fun i σ' H' _ ⟨E', F', r', _⟩ => (r'.tmp (Gd, fp) (List.mem_cons_self)).1) ?_ ?_
    · rintro i x σ2 H2 H3 hi ⟨E2, F2, r2, o2⟩ ⟨s3, d, f, hd, rd, hf⟩
      have ed : items.drop i = d :: items.drop (i + 1) := by
        have hl := (List.getElem?_eq_some_iff.mp hd)
        obtain ⟨hl, ee⟩ := hl
        rw [List.drop_eq_getElem_cons hl, ee]
      rw [ed] at o2
      simp only [forGo] at o2
      cases eb : bindT T d E2 with
      | none =>
        rw [eb] at o2
        exact o2.elim
      | some E3 =>
        simp only [eb] at o2
        have r3 := r2.same s3
        refine bind_tg (G := glo X) r3.rep rd eb fun σ3 F3 bb => ⟨B.with (Gd, fp), E3, F3, r3.bnd bb (fun i a ha z => (r3.tmp (Gd, fp) List.mem_cons_self).2 i a ha (hf a z)) (fun a ha => pfp a (hf a ha)), ?_⟩
        cases e3 : g E3 with
        | no =>
          rw [e3] at o2
          exact o2
        | exc c =>
          rw [e3] at o2
          exact o2
        | ok fl =>
          rw [e3] at o2
          cases fl with
          | nx E' => exact fun σ' H' F' r' => ⟨E', F', r', o2⟩
          | ct E' => exact fun σ' H' F' r' => ⟨E', F', r', o2⟩
          | bk E' => exact fun σ' H' F' r' => o2 σ' H' F' r'.less
          | rt d' dp => exact o2
    · rintro σ2 H2 ⟨E2, F2, r2, o2⟩
      rw [List.drop_length] at o2
      exact o2 σ2 H2 F2 r2.less
theorem tg_one (C : XOk k X) {i : Nat} {x : Str} {pos : Pos} (hi : X.N[i]? = some x := by rfl) (hx : Loc X.env.scope x := by first | exact Or.inl rfl | exact Or.inr rfl) (hf : X.fn x = true ∨ X.env.scope.names.lookup x = some .local := by first | exact .inl rfl | exact .inr rfl) :
    PG X (.Name x pos) (gT X.K (.one i)) := pg_name C.nd hi hx hf
/-- raise C('..') -/
def sRaise (c : Tx) : Sto → Res Fl := fun _ => .exc c
theorem es_raise (C : XOk k X) (tk : Takes X W) {x m : Str} {c : Tx} {j : Nat} {p p2 pos pos2 : Pos} {A : Addr} {bmB : List Value} {Bn newId initId : String} (F : ExcBaseFacts Bn newId initId bmB) (q : PySem.W.excIn X.K A bmB newId = true) (gC : X.mg x = some (.ref A)) (kC : PySem.W.keepIn X.K (.ref A) = true) (r : Raises X (.ref A))
    (hc : x.cps.toList = c := by rfl) (hg : Gl X x := by rfl) (hdb : (x == ("__debug__" : Str)) = false := by decide) : Es X W (.Raise (some (.Call (.Name x p) [.Constant (.str m) j p2] [] pos)) none pos2) (sRaise c) := by
  refine ⟨weakS (ps_raise C.calm tk (pmk_own F q gC kC r hg hdb)) fun D σ H ⟨B, E, F', rr, o⟩ => ?_⟩
  exact o A σ H (by rw [← hc, mkS_tl]; exact gC) rr.frm

/-! ### own defs -/
abbrev Con := List Dat → Res (Dat × Bool)
/-- a def's promise over pure data -/
def spC (G : Glo) (n : Nat) (c : Con) : Sp := fun vs H Q E => ∃ ds fp, RepL G H ds vs fp ∧ vs.length = n ∧ match c ds with
  | .ok (d, dp) => ∀ v H' f, Same H H' → Rep G H' d v f → (dp = true → f.Nodup ∧ ∀ a ∈ f, H a = none ∧ Wr H' a) → (∀ a ∈ f, H a = none ∨ a ∈ fp) → Q v H'
  | .exc cl => ∀ C H', G.mg (mkS cl) = some (.ref C) → Same H H' → E (.ref C) none H'
  | .no => False
def startE (N : Nat) (ds : List Dat) : Sto := ds.map (fun d => some (d, Kd.shr)) ++ List.replicate (N - ds.length) none
def runF (N n : Nat) (g : Sto → Res Fl) : Con := fun ds => if ds.length = n then match g (startE N ds) with
    | .ok (.rt d dp) => .ok (d, dp)
    | .ok (.nx _) => .ok (.non, true)
    | .exc c => .exc c
    | _ => .no
  else .no
theorem slot_start {N : Nat} {ds : List Dat} {i : Nat} {d : Dat} {k : Kd} (h : slot (startE N ds) i = some (d, k)) : ds[i]? = some d ∧ k = .shr := by
  have e := slot_some h
  unfold startE at e
  by_cases hi : i < ds.length
  · rw [List.getElem?_append_left (by simpa using hi), List.getElem?_map] at e
    cases e2 : ds[i]? with
    | none =>
      rw [e2] at e
      cases e
    | some x =>
      rw [e2] at e
      simp at e
      exact ⟨by rw [e.1], e.2.symm⟩
  · rw [List.getElem?_append_right (by simpa using hi), List.getElem?_replicate] at e
    split at e <;> cases e
theorem start_at {N : List Str} {vs : List V} {i : Nat} {v : V} (h : vs[i]? = some v) : (L2.start N vs)[i]? = some (some v) := by
  unfold L2.start
  have hi := (List.getElem?_eq_some_iff.mp h).1
  rw [List.getElem?_append_left (by simpa using hi), List.getElem?_map, h]
  rfl
open Classical in
/-- at the entry -/
theorem R.start {G : Glo} {H : Hp} {N : List Str} {ds : List Dat} {vs : List V} {fp : List Addr} (r : RepL G H ds vs fp) : ∃ F, R G ⟨H, [], [], fun a => a ∈ fp⟩ (startE N.length ds) (L2.start N vs) H F := by
  have key : ∀ (i : Nat) (d : Dat), ds[i]? = some d → ∃ (v : V) (f : List Addr), vs[i]? = some v ∧ Rep G H d v f ∧ ∀ a ∈ f, a ∈ fp := fun i d h => r.at h
  have pickF : ∀ i : Nat, ∃ f : List Addr, (∀ d : Dat, ds[i]? = some d → ∃ v : V, vs[i]? = some v ∧ Rep G H d v f) ∧ (ds[i]? = none → f = []) ∧ ∀ a ∈ f, a ∈ fp := by
    intro i
    cases e : ds[i]? with
    | none => exact ⟨[], (fun d z => nomatch z), fun _ => rfl, (fun _ z => nomatch z)⟩
    | some d =>
      obtain ⟨v, f, h1, h2, h3⟩ := key i d e
      exact ⟨f, fun d' e' => by
        cases e'
        exact ⟨v, h1, h2⟩, (fun z => nomatch z), h3⟩
  have kdn : ∀ i, kd (startE N.length ds) i = .shr := fun i => by
    unfold kd
    cases e : slot (startE N.length ds) i with
    | none => rfl
    | some x => exact (slot_start (d := x.1) (k := x.2) e).2
  have own : ∀ (F : Fp) i, Ow (startE N.length ds) F i = [] := fun F i => by
    unfold Ow
    rw [kdn]
    rfl
  refine ⟨fun i => (pickF i).choose, ⟨?_, fun i d k e => ?_, fun i e => ?_⟩, fun i a ha => ?_, fun i e => ?_, fun i e => ?_, fun i j n a ha => ?_, (fun _ z => nomatch z), (fun _ z => nomatch z), fun i a ha => .inr ((pickF i).choose_spec.2.2 a ha), fun b o h => .inl h⟩
  · unfold startE L2.start
    simp [r.len]
  · obtain ⟨h1, _⟩ := slot_start e
    obtain ⟨v, q1, q2⟩ := (pickF i).choose_spec.1 d h1
    exact ⟨v, start_at q1, q2⟩
  · refine (pickF i).choose_spec.2.1 ?_
    cases e2 : ds[i]? with
    | none => rfl
    | some d =>
      exfalso
      have : slot (startE N.length ds) i = some (d, .shr) := by
        unfold slot startE
        have hi := (List.getElem?_eq_some_iff.mp e2).1
        rw [List.getElem?_append_left (by simpa using hi), List.getElem?_map, e2]
        rfl
      rw [this] at e
      cases e
  · rw [own] at ha
    cases ha
  · rw [kdn] at e
    cases e
  · rw [kdn] at e
    cases e
  · rw [own] at ha
    cases ha
section
variable {P : Program} {w : World} {K : PySem.W.Frag} {mg : Str → Option Value} {base : Heap}
/-- THE RULE for a def over pure data -/
theorem fn_pv {x qual : Str} {st : Stmt} {f : Addr} {fd : FuncData} {N ps : List Str} {k n : Nat} {g : Sto → Res Fl} {c : Con} (F : Fun K x qual st f fd) (S : FnScope N ps (defScope st)) (hn : ps.length = n)
    (hb : ∀ (cdv : Value) (A : Around) (outer : List Env) (s : Shared) (H : Hp) (E : XK), XOk k (cxOf (L2.CX P w) P w K mg base N qual (defScope st) f cdv A outer s H E) →
      Takes (cxOf (L2.CX P w) P w K mg base N qual (defScope st) f cdv A outer s H E) (fun cls d _ H => E cls d H) →
      PassesOwn (model P w) (cxOf (L2.CX P w) P w K mg base N qual (defScope st) f cdv A outer s H E).A (cxOf (L2.CX P w) P w K mg base N qual (defScope st) f cdv A outer s H E).env (cxOf (L2.CX P w) P w K mg base N qual (defScope st) f cdv A outer s H E).xe →
      Ess (cxOf (L2.CX P w) P w K mg base N qual (defScope st) f cdv A outer s H E) (fun cls d _ H => E cls d H) (defBody st) g)
    (hc : ∀ ds, c ds ≠ .no → runF N.length n g ds = c ds := by exact fun _ _ => rfl) : FnOk P w K mg base (L2.CX P w) (k + 1) f fd ps (spC ⟨K, mg⟩ n c) := by
  refine F.okX S (fun vs H Q E ⟨ds, fp, r, l, _⟩ => l.trans hn.symm) fun cdv A outer s H vs Q E hr ⟨ds, fp, r, l, h⟩ => ?_
  have C : XOk k (cxOf (L2.CX P w) P w K mg base N qual (defScope st) f cdv A outer s H E) := ⟨rfl, S.nd, hr⟩
  refine ⟨_, (hb cdv A outer s H E C (takes_of rfl rfl rfl rfl) (passes_of rfl)).pss, ?_⟩
  obtain ⟨F0, r0⟩ := R.start (N := N) r
  refine ⟨_, _, F0, r0, ?_⟩
  have hcd : runF N.length n g ds = c ds := hc ds fun e => by
    rw [e] at h
    exact h
  rw [← hcd] at h
  have ld : ds.length = n := by rw [← r.len]; exact l
  unfold runF at h
  rw [if_pos ld] at h
  cases e : g (startE N.length ds) with
  | no =>
    simp only [e] at h
  | exc cl =>
    simp only [e] at h
    exact fun C' σ' H' m fr => h C' H' m fun b o q => (fr b o q).elim id fun ⟨z, _⟩ => nomatch z
  | ok fl =>
    cases fl with
    | nx E' =>
      simp only [e] at h
      exact fun σ' H' F' r' => h .non H' [] (fun b o q => (r'.frm b o q).elim id fun ⟨z, _⟩ => nomatch z) mk_non (fun _ => ⟨.nil, (fun _ z => nomatch z)⟩) (fun _ z => nomatch z)
    | rt d dp =>
      simp only [e] at h
      intro v H' ⟨f', q1, q2, q3, q4⟩
      exact h v H' f' (fun b o q => (q4 b o q).elim id fun ⟨z, _⟩ => nomatch z) q1 (fun z => ⟨(q2 z).1, fun a ha => ⟨((q2 z).2 a ha).2, ((q2 z).2 a ha).1⟩⟩) q3
    | bk E' => simp only [e] at h
    | ct E' => simp only [e] at h
end
/-! ### a call -/
def fCall (n : Nat) (c : Con) (a : Sto → Res (List Rs)) : Sto → Res Rs := fun E => (a E).bind fun rs => if rs.length ≠ n then .no else match c (rs.map (·.d)) with
  | .ok (d, dp) => .ok (if flat d then rsF d else if dp then ⟨d, false, [], some []⟩ else ⟨d, false, allSrc rs, none⟩)
  | .exc cl => .exc cl
  | .no => .no
theorem call_gv {G : Glo} {H H1 H2 : Hp} {F : Fp} {rs : List Rs} {vs : List V} {fp f : List Addr} {d : Dat} {dp : Bool} {v : V} (s1 : Same H H1) (g : GvL G H F rs vs H1 fp) (r : Rep G H2 d v f) (h1 : dp = true → f.Nodup ∧ ∀ a ∈ f, H1 a = none ∧ Wr H2 a) (h2 : ∀ a ∈ f, H1 a = none ∨ a ∈ fp) :
    Gv G H F (if flat d then rsF d else if dp then ⟨d, false, [], some []⟩ else ⟨d, false, allSrc rs, none⟩) v H2 f := by
  by_cases hf : flat d = true
  · rw [if_pos hf]
    have := Rep.flat _ _ _ r hf
    subst this
    exact Gv.flat r
  · rw [if_neg hf]
    by_cases hd : dp = true
    · rw [if_pos hd]
      obtain ⟨n, w⟩ := h1 hd
      refine ⟨r, fun a ha => .inl (s1.free (w a ha).1), (fun z => nomatch z), fun m em => ?_⟩
      injection em with em
      subst em
      exact ⟨f, by simp, n, fun a ha => ⟨s1.free (w a ha).1, (w a ha).2⟩⟩
    · rw [if_neg hd]
      refine ⟨r, fun a ha => ?_, (fun z => nomatch z), (fun m z => nomatch z)⟩
      rcases h2 a ha with q | q
      · exact .inl (s1.free q)
      · rcases g.src a q with w | ⟨r', hr', i, hi, w⟩
        · exact .inl w
        · exact .inr ⟨i, List.mem_flatMap.mpr ⟨r', hr', hi⟩, w⟩
/-- what a caller knows of a def -/
structure Def (X : Cx) (k : Nat) (x : Str) (n : Nat) (c : Con) : Prop where
  ex : ∃ (f : Addr) (fd : FuncData) (ps : List Str) (j : Nat), FnOk X.prog X.w X.K X.mg X.base (L2.CX X.prog X.w) j f fd ps (spC (glo X) n c) ∧ j ≤ k ∧ X.mg x = some (.ref f) ∧ PySem.W.keepIn X.K (.ref f) = true ∧ Binds X.K fd ps []
theorem ev_call (C : XOk k X) (tk : Takes X W) {x : Str} {n : Nat} {c : Con} {p pos : Pos} {e : Expr} {es : List Expr} {a : Sto → Res (List Rs)} (D : Def X k x n c) (ha : Ea X W (e :: es) a) (hg : Gl X x := by rfl) (hdb : (x == ("__debug__" : Str)) = false := by decide)
    (he : starEach (e :: es) X.env = (false, eval e X.env) :: starEach es X.env := by rfl) (hpl : (backTo pos (starEach es X.env)).any (·.1) = false := by rfl) : Ev X W (.Call (.Name x p) (e :: es) [] pos) (fCall n c a) := by
  obtain ⟨f, fd, ps, j, F, hj, hm, kp, b⟩ := D.ex
  refine ⟨weakE (pe_callS F (C.hr.mono hj) hg hm kp b (fun σ => passAt tk σ) ha.pa hdb he hpl) fun σ H Q ⟨E, F', re, o⟩ => ?_⟩
  refine seqA re o fun rs vs H1 fp e1 s1 g o1 => ?_
  have hl : rs.length = n := Classical.byContradiction fun hl => by
    rw [if_pos hl] at o1
    exact o1.elim
  rw [if_neg (fun z => z hl)] at o1
  refine ⟨rs.map (·.d), fp, g.reps, by rw [g.len]; exact hl, ?_⟩
  cases ec : c (rs.map (·.d)) with
  | no =>
    simp only [ec] at o1
    exact o1
  | exc cl =>
    simp only [ec] at o1
    exact o1
  | ok y =>
    obtain ⟨d, dp⟩ := y
    simp only [ec] at o1
    exact fun v H' f' s2 r h1 h2 => o1 v H' f' s2 (call_gv s1 g r h1 h2)
end
end PV

/-! PV13: isinstance, chains, constants, defs by name and level. -/
namespace PV
open PySem PySem.Spec L2
section
variable {X : Cx} {W : WX} {k : Nat}
/-- an own class whose instances may be asked for their class -/
structure ClsI (X : Cx) (c : Tx) (C : Addr) : Prop where
  mg : X.mg (mkS c) = some (.ref C)
  cl : Cls X.K C
  ha : PySem.W.findIn X.K (.ref C) "__class__" = some (some (.builtin "object.__class__"))
  hn : PySem.W.specialIn X.K (.builtin "object.__class__") "__get__" = some (some (.builtin "getset_descriptor.__get__"))
  htk : PySem.W.takesIn X.K (.builtin "object.__class__") = some true
  hm : PySem.W.mroIn X.K C (.type "object") = some true
def tyS : Dat → Option String
  | .non => some "NoneType"
  | .bl _ => some "bool"
  | .int _ => some "int"
  | .str _ => some "str"
  | .tup _ => some "tuple"
  | .lst _ => some "list"
  | .rol _ => some "list"
  | .dic _ _ => some "dict"
  | _ => none
def gIsi (at_ : String → Option Bool) (own : Tx → Option Bool) (r : Rs) : Res Rs := match r.d with
  | .ins c _ _ => match own c with
    | some b => .ok (rsF (.bl b))
    | none => .no
  | d => match (tyS d).bind at_ with
    | some b => .ok (rsF (.bl b))
    | none => .no
theorem ty_of {G : Glo} {H : Hp} {d : Dat} {v : V} {fp : List Addr} {t : String} (r : Rep G H d v fp) (h : tyS d = some t) : TyX G.K H v (.type t) := by
  cases d <;> simp only [tyS, Option.some.injEq] at h <;> first | cases h | subst h
  · rw [rep_non r]
    exact .base .non
  · rw [rep_bl r]
    exact .base (.bl _)
  · rw [rep_int r]
    exact .base (.int _)
  · rw [rep_str r]
    exact .base (.str _)
  · simp only [Rep] at r
    obtain ⟨a, vs, rfl, q, _⟩ := r
    rcases q with (q | ⟨o, q⟩) | ⟨o, its, n, q, c, _⟩
    · exact .base (.tup q)
    · exact .fTuple q
    · exact .kTuple q c
  · simp only [Rep] at r
    obtain ⟨a, vs, f, rfl, q, _⟩ := r
    exact .base (.lst q)
  · simp only [Rep] at r
    obtain ⟨a, vs, rfl, q, _⟩ := r
    rcases q with ⟨o, q⟩ | ⟨o, its, n, q, c, _⟩
    · exact .base (.frz q)
    · exact .kList q c
  · simp only [Rep] at r
    obtain ⟨a, vs, f, rfl, q, _⟩ := r
    rcases q with q | ⟨o, q⟩
    · exact .base (.dK q)
    · exact .fDict q
theorem ev_isi {e e2 : Expr} {p pos : Pos} {f : Sto → Res Rs} {c : V} {u : Value} {at_ : String → Option Bool} {own : Tx → Option Bool} (hm : X.mg "isinstance" = none) (he : Ev X W e f) (h2 : PE X e2 (tC c)) (hc : ClsV c u)
    (ht : ∀ t b, at_ t = some b → PySem.W.kitOne X.K (.type t) u = some b) (ho : ∀ t b, own t = some b → ∃ C, ClsI X t C ∧ PySem.W.kitOne X.K (.ref C) u = some b) (hgl : Gl X "isinstance" := by rfl)
    (hs : starEach [e, e2] X.env = (false, eval e X.env) :: starEach [e2] X.env := by rfl) (hs2 : starEach [e2] X.env = (false, eval e2 X.env) :: starEach [] X.env := by rfl) (hpl : (backTo pos (starEach [e2] X.env)).any (·.1) = false := by rfl) : Ev X W (.Call (.Name "isinstance" p) [e, e2] [] pos) (fOne (gIsi at_ own) f) := by
  refine ⟨weakE (pe_callB call_isi hgl hm (by decide +kernel) (pa_cons he.pe (pa_cons h2 pa_nil hs2) hs) (by decide) (by decide) hs hpl) fun σ H Q ⟨E, F, re, o⟩ => ?_⟩
  refine seqE re (Same.refl H) o fun r x H1 fp e1 s1 g o1 => ?_
  have p := g.rep
  unfold gIsi at o1
  by_cases hi : ∃ c' ks vs, r.d = .ins c' ks vs
  · obtain ⟨c', ks, vs, ed⟩ := hi
    simp only [ed] at o1
    rw [ed] at p
    cases eo : own c' with
    | none =>
      simp only [eo] at o1
      exact o1.elim
    | some b =>
      simp only [eo] at o1
      obtain ⟨C, ci, hk⟩ := ho c' b eo
      simp only [Rep] at p
      obtain ⟨a, C', dx, vs', f', rfl, q1, q2, _⟩ := p
      have eC : C' = C := by
        have := q1.symm.trans ci.mg
        injection this with this
        injection this
      subst eC
      exact ⟨.ref a, c, .ref C', u, b, rfl, hc, .base (.ins q2 ci.cl ci.ha ci.hn ci.htk ci.hm), hk, o1.flat mk_bl⟩
  · have key : ∀ t, tyS r.d = some t → ∀ b, at_ t = some b → Out X W H H1 F σ (.ok (rsF (.bl b))) Q → rIsi X.K [x, c] H1 Q := fun t e4 b e5 o5 => ⟨x, c, .type t, u, b, rfl, hc, ty_of p e4, ht t b e5, o5.flat mk_bl⟩
    have o2 : Out X W H H1 F σ (match (tyS r.d).bind at_ with
      | some b => .ok (rsF (.bl b))
      | none => .no) Q := by
      cases ed : r.d <;> simp only [ed] at o1 ⊢ <;> first | exact o1 | exact absurd ⟨_, _, _, ed⟩ hi
    cases e4 : tyS r.d with
    | none =>
      rw [e4] at o2
      exact o2.elim
    | some t =>
      rw [e4] at o2
      simp only [Option.bind] at o2
      cases e5 : at_ t with
      | none =>
        simp only [e5] at o2
        exact o2.elim
      | some b =>
        simp only [e5] at o2
        exact key t e4 b e5 o2
def isB (T : String) (t : String) : Option Bool := if t = T then some true else if t = "bool" ∧ T = "int" then some true else some false
def tyN : List String := ["NoneType", "bool", "int", "str", "tuple", "list", "dict"]
def isT (T : String) (t : String) : Option Bool := if t ∈ tyN then isB T t else none
theorem kit_T {K : PySem.W.Frag} {T : String} (h : tyN.all (fun t => kitB t T == isB T t) = true) : ∀ t b, isT T t = some b → PySem.W.kitOne K (.type t) (.type T) = some b := by
  intro t b e
  unfold isT at e
  by_cases ht : t ∈ tyN
  · rw [if_pos ht] at e
    have := List.all_eq_true.mp h t ht
    exact kit_ty ((eq_of_beq this).trans e)
  · rw [if_neg ht] at e
    cases e
def noOwn : Tx → Option Bool := fun _ => none
theorem ev_isiB {e : Expr} {T : String} {x : Str} {p p2 pos : Pos} {f : Sto → Res Rs} (hm : X.mg "isinstance" = none) (he : Ev X W e f) (hx : X.mg x = none) (hv : bootBuiltins x = some (.type T)) (hT : tyN.all (fun t => kitB t T == isB T t) = true) (hn : x ≠ "__name__" := by decide) (hd : (x == ("__debug__" : Str)) = false := by decide) (hgl : Gl X "isinstance" := by rfl) (hgx : Gl X x := by rfl)
    (hs : starEach [e, .Name x p2] X.env = (false, eval e X.env) :: starEach [.Name x p2] X.env := by rfl) : Ev X W (.Call (.Name "isinstance" p) [e, .Name x p2] [] pos) (fOne (gIsi (isT T) noOwn) f) :=
  ev_isi hm he (pe_bltn hgx hx hv (v := .ty T) rfl hn hd) (.ty T) (kit_T hT) (fun _ _ z => nomatch z) hgl hs rfl rfl

/-! ### chains -/
def fChain (g g' : Rs → Rs → Res Rs) (fa fb fc : Sto → Res Rs) : Sto → Res Rs := fun E => (fa E).bind fun ra => (fb E).bind fun rb => (g ra rb).bind fun r => match r.d with
  | .bl true => (fc E).bind fun rc => g' rb rc
  | .bl false => .ok (rsF (.bl false))
  | _ => .no
theorem ev_chain {a b c : Expr} {op op' : CmpOp} {pos : Pos} {r r' : R2} {g g' : Rs → Rs → Res Rs} {fa fb fc : Sto → Res Rs} (ho : OpR X (compareOp op) r) (hg : OpS X r g) (ho' : OpR X (compareOp op') r') (hg' : OpS X r' g') (ha : Ev X W a fa) (hb : Ev X W b fb) (hc : Ev X W c fc)
    (hm : lastMarks [op, op'] [b, c] = false := by with_unfolding_all rfl) : Ev X W (.Compare a [op, op'] [b, c] pos) (fChain g g' fa fb fc) := by
  refine ⟨weakE (pe_chain ho ho' ha.pe hb.pe hc.pe hm) fun σ H Q ⟨E, F, re, o⟩ => ?_⟩
  refine seqE re (Same.refl H) o fun ra x H1 f1 e1 s1 g1 o1 => ?_
  refine seqE (re.same s1) s1 o1 fun rb y H2 f2 e2 s2 g2 o2 => ?_
  refine hg W H H2 F σ ra rb x y f1 f2 _ (s1.trans s2) (fun i => re.trk i) (g1.same s2) g2 ?_
  cases e3 : g ra rb with
  | no =>
    rw [e3] at o2
    exact o2
  | exc cl =>
    rw [e3] at o2
    exact o2
  | ok r =>
    rw [e3] at o2
    intro v H3 fp s3 g3
    have p := g3.rep
    have o3 := o2.mono s3
    simp only [bind_ok] at o3
    cases ed : r.d <;> simp only [ed] at o3 <;> first | exact o3.elim | skip
    rename_i bb
    rw [ed] at p
    refine ⟨bb, rep_bl p, ?_⟩
    cases bb with
    | false =>
      rw [if_neg Bool.false_ne_true]
      exact o3.flat mk_bl
    | true =>
      rw [if_pos rfl]
      refine seqE (re.same (s1.trans (s2.trans s3))) (s1.trans (s2.trans s3)) o3 fun rc z H4 f4 e4 s4 g4 o4 => ?_
      exact hg' W H H4 F σ rb rc y z f2 f4 Q (s1.trans (s2.trans (s3.trans s4))) (fun i => re.trk i) (g2.same (s3.trans s4)) g4 o4
theorem op_ltS : OpS X (rI0 fun i j => V.bl (decide (i < j))) gLt := ops_I0 fun _ _ _ _ => mk_bl
theorem op_leS : OpS X (rI0 fun i j => V.bl (decide (i ≤ j))) gLe := ops_I0 fun _ _ _ _ => mk_bl
theorem ev_leLe {a b c : Expr} {pos : Pos} {fa fb fc : Sto → Res Rs} (ha : Ev X W a fa) (hb : Ev X W b fb) (hc : Ev X W c fc) (hm : lastMarks [.LtE, .LtE] [b, c] = false := by with_unfolding_all rfl) : Ev X W (.Compare a [.LtE, .LtE] [b, c] pos) (fChain gLe gLe fa fb fc) := ev_chain op_le op_leS op_le op_leS ha hb hc hm
theorem ev_leLt {a b c : Expr} {pos : Pos} {fa fb fc : Sto → Res Rs} (ha : Ev X W a fa) (hb : Ev X W b fb) (hc : Ev X W c fc) (hm : lastMarks [.LtE, .Lt] [b, c] = false := by with_unfolding_all rfl) : Ev X W (.Compare a [.LtE, .Lt] [b, c] pos) (fChain gLe gLt fa fb fc) := ev_chain op_le op_leS op_lt op_ltS ha hb hc hm

/-! ### constants of the module -/
theorem ev_gStr {x : Str} {s : Str} {y : Tx} {t} {pos : Pos} (hm : X.mg x = some (.str s t)) (hy : s.cps.toList = y := by rfl) (hg : Gl X x := by rfl) (hd : (x == ("__debug__" : Str)) = false := by decide) : Ev X W (.Name x pos) (fC (.str y)) :=
  ev_glob (v := .str s) hg hm ⟨t, rfl⟩ (by
    simp only [Rep, ← hy, mkS_tl]
    exact ⟨trivial, trivial⟩) hd
theorem ev_gInt {x : Str} {i : Int} {t} {pos : Pos} (hm : X.mg x = some (.int i t)) (hg : Gl X x := by rfl) (hd : (x == ("__debug__" : Str)) = false := by decide) : Ev X W (.Name x pos) (fC (.int i)) :=
  ev_glob (v := .int i) hg hm ⟨t, rfl⟩ mk_int hd
end
/-! ### defs by name and level -/
/-- the def x of the module keeps c, at level k and above -/
def DefP (P : Program) (w : World) (K : PySem.W.Frag) (mg : Str → Option Value) (base : Heap) (k : Nat) (x : Str) (n : Nat) (c : Con) : Prop :=
  ∃ (f : Addr) (fd : FuncData) (ps : List Str) (j : Nat), FnOk P w K mg base (L2.CX P w) j f fd ps (spC ⟨K, mg⟩ n c) ∧ j ≤ k ∧ mg x = some (.ref f) ∧ PySem.W.keepIn K (.ref f) = true ∧ Binds K fd ps []
theorem DefP.at {X : Cx} {k j : Nat} {x : Str} {n : Nat} {c : Con} (d : DefP X.prog X.w X.K X.mg X.base j x n c) (h : j ≤ k := by decide) : Def X k x n c := by
  obtain ⟨f, fd, ps, i, F, hi, r⟩ := d
  exact ⟨f, fd, ps, i, F, Nat.le_trans hi h, r⟩
section
variable {P : Program} {w : World} {K : PySem.W.Frag} {mg : Str → Option Value} {base : Heap}
theorem DefP.mk {k n : Nat} {x : Str} {st : Stmt} {f : Addr} {fd : FuncData} {ps : List Str} {qual : Str} {c : Con} (F : Fun K x qual st f fd) (o : FnOk P w K mg base (L2.CX P w) k f fd ps (spC ⟨K, mg⟩ n c)) (g : mg x = some (.ref f)) (b : Binds K fd ps []) : DefP P w K mg base k x n c :=
  ⟨f, fd, ps, k, o, Nat.le_refl k, g, F.kp, b⟩
/-- another word for the same -/
theorem DefP.to {k n : Nat} {x : Str} {c c' : Con} (d : DefP P w K mg base k x n c) (h : ∀ ds y, c' ds = y → y ≠ .no → c ds = y) : DefP P w K mg base k x n c' := by
  obtain ⟨f, fd, ps, i, F, r⟩ := d
  refine ⟨f, fd, ps, i, ?_, r⟩
  refine F.imp fun vs H Q E ⟨ds, fp, r, l, q⟩ => ⟨ds, fp, r, l, ?_⟩
  by_cases z : c' ds = .no
  · rw [z] at q
    exact q.elim
  · rw [h ds _ rfl z]
    exact q
end
end PV

/-! PV14: comparisons as tests, tests of comprehensions. -/
namespace PV
open PySem PySem.Spec L2
section
variable {X : Cx} {W : WX} {k : Nat}
theorem tofT {f : Sto → Res Rs} {σ : L2.St} {H : Hp} {Q : Bool → Hp → Prop} (h : tEt X W (tOf f) σ H Q) : tTest (tEv X W f) σ H Q := by
  obtain ⟨E, F, re, o⟩ := h
  refine seqET re o fun r v H1 fp e s1 g o1 => ?_
  have gr := g.rep
  unfold toB at o1
  cases ed : r.d with
  | bl b =>
    simp only [ed] at o1
    rw [ed] at gr
    simp only [Rep] at gr
    exact ⟨b, gr.1, o1 H1 (Same.refl H1)⟩
  | _ =>
    simp only [ed] at o1
    exact o1.elim
theorem bin_op {a b : Expr} {r : R2} {g : Rs → Rs → Res Rs} {fa fb : Sto → Res Rs} (hg : OpS X r g) {σ : L2.St} {H : Hp} {Q : VK} (h : tEv X W (fBin g fa fb) σ H Q) : tOp r (tEv X W fa) (tEv X W fb) σ H Q := by
  obtain ⟨E, F, re, o⟩ := h
  refine seqE re (Same.refl H) o fun ra x H1 f1 e1 s1 g1 o1 => ?_
  refine seqE (re.same s1) s1 o1 fun rb y H2 f2 e2 s2 g2 o2 => ?_
  exact hg W H H2 F σ ra rb x y f1 f2 Q (s1.trans s2) (fun i => re.trk i) (g1.same s2) g2 o2
theorem et_cmp {a b : Expr} {op : CmpOp} {pos : Pos} {r : R2} {g : Rs → Rs → Res Rs} {fa fb : Sto → Res Rs} (ho : OpR X (compareOp op) r) (hg : OpS X r g) (ha : Ev X W a fa) (hb : Ev X W b fb) (hm : behindInMarks op b = false) : Et X W (.Compare a [op] [b] pos) (tOf (fBin g fa fb)) :=
  ⟨weakT (pt_cmpR ho ha.pe hb.pe hm) fun σ H Q h => bin_op (a := a) (b := b) hg (tofT h)⟩
section
variable {a b : Expr} {pos : Pos} {fa fb : Sto → Res Rs} (ha : Ev X W a fa) (hb : Ev X W b fb)
include ha hb
theorem et_lt : Et X W (.Compare a [.Lt] [b] pos) (tOf (fBin gLt fa fb)) := et_cmp op_lt (ops_I0 fun _ _ _ _ => mk_bl) ha hb (nomark _)
theorem et_le : Et X W (.Compare a [.LtE] [b] pos) (tOf (fBin gLe fa fb)) := et_cmp op_le (ops_I0 fun _ _ _ _ => mk_bl) ha hb (nomark _)
theorem et_gt : Et X W (.Compare a [.Gt] [b] pos) (tOf (fBin gGt fa fb)) := et_cmp op_gt (ops_I0 fun _ _ _ _ => mk_bl) ha hb (nomark _)
theorem et_ge : Et X W (.Compare a [.GtE] [b] pos) (tOf (fBin gGe fa fb)) := et_cmp op_ge (ops_I0 fun _ _ _ _ => mk_bl) ha hb (nomark _)
theorem et_eq (C : XOk k X) : Et X W (.Compare a [.Eq] [b] pos) (tOf (fBin gEq fa fb)) := et_cmp (op_eqP C) ops_eq ha hb (nomark _)
theorem et_ne (C : XOk k X) : Et X W (.Compare a [.NotEq] [b] pos) (tOf (fBin gNe fa fb)) := et_cmp (op_neP C) ops_ne ha hb (nomark _)
theorem et_in (C : XOk k X) (hm : behindInMarks .In b = false := by rfl) : Et X W (.Compare a [.In] [b] pos) (tOf (fBin (gIn false) fa fb)) := et_cmp (op_inA C) ops_in ha hb hm
theorem et_notIn (C : XOk k X) (hm : behindInMarks .NotIn b = false := by rfl) : Et X W (.Compare a [.NotIn] [b] pos) (tOf (fBin (gIn true) fa fb)) := et_cmp (op_notInA C) ops_in ha hb hm
theorem et_is : Et X W (.Compare a [.Is] [b] pos) (tOf (fBin (gIs false) fa fb)) := et_cmp op_isA ops_is ha hb (nomark _)
theorem et_isNot : Et X W (.Compare a [.IsNot] [b] pos) (tOf (fBin (gIs true) fa fb)) := et_cmp op_isNotA ops_is ha hb (nomark _)
end
theorem chain_op {r r' : R2} {g g' : Rs → Rs → Res Rs} {fa fb fc : Sto → Res Rs} (hg : OpS X r g) (hg' : OpS X r' g') {σ : L2.St} {H : Hp} {Q : VK} (h : tEv X W (fChain g g' fa fb fc) σ H Q) : tChain r r' (tEv X W fa) (tEv X W fb) (tEv X W fc) σ H Q := by
  obtain ⟨E, F, re, o⟩ := h
  refine seqE re (Same.refl H) o fun ra x H1 f1 e1 s1 g1 o1 => ?_
  refine seqE (re.same s1) s1 o1 fun rb y H2 f2 e2 s2 g2 o2 => ?_
  refine hg W H H2 F σ ra rb x y f1 f2 _ (s1.trans s2) (fun i => re.trk i) (g1.same s2) g2 ?_
  cases e3 : g ra rb with
  | no =>
    rw [e3] at o2
    exact o2
  | exc cl =>
    rw [e3] at o2
    exact o2
  | ok r =>
    rw [e3] at o2
    intro v H3 fp s3 g3
    have p := g3.rep
    have o3 := o2.mono s3
    simp only [bind_ok] at o3
    cases ed : r.d <;> simp only [ed] at o3 <;> first | exact o3.elim | skip
    rename_i bb
    rw [ed] at p
    refine ⟨bb, rep_bl p, ?_⟩
    cases bb with
    | false =>
      rw [if_neg Bool.false_ne_true]
      exact o3.flat mk_bl
    | true =>
      rw [if_pos rfl]
      refine seqE (re.same (s1.trans (s2.trans s3))) (s1.trans (s2.trans s3)) o3 fun rc z H4 f4 e4 s4 g4 o4 => ?_
      exact hg' W H H4 F σ rb rc y z f2 f4 Q (s1.trans (s2.trans (s3.trans s4))) (fun i => re.trk i) (g2.same (s3.trans s4)) g4 o4
theorem et_chain {a b c : Expr} {op op' : CmpOp} {pos : Pos} {r r' : R2} {g g' : Rs → Rs → Res Rs} {fa fb fc : Sto → Res Rs} (ho : OpR X (compareOp op) r) (hg : OpS X r g) (ho' : OpR X (compareOp op') r') (hg' : OpS X r' g') (ha : Ev X W a fa) (hb : Ev X W b fb) (hc : Ev X W c fc)
    (hm : lastMarks [op, op'] [b, c] = false := by with_unfolding_all rfl) : Et X W (.Compare a [op, op'] [b, c] pos) (tOf (fChain g g' fa fb fc)) :=
  ⟨weakT (pt_chain ho ho' ha.pe hb.pe hc.pe hm) fun σ H Q h => by
    have := tofT h
    exact chain_op hg hg' this⟩
theorem et_leLe {a b c : Expr} {pos : Pos} {fa fb fc : Sto → Res Rs} (ha : Ev X W a fa) (hb : Ev X W b fb) (hc : Ev X W c fc) (hm : lastMarks [.LtE, .LtE] [b, c] = false := by with_unfolding_all rfl) : Et X W (.Compare a [.LtE, .LtE] [b, c] pos) (tOf (fChain gLe gLe fa fb fc)) := et_chain op_le op_leS op_le op_leS ha hb hc hm
theorem et_leLt {a b c : Expr} {pos : Pos} {fa fb fc : Sto → Res Rs} (ha : Ev X W a fa) (hb : Ev X W b fb) (hc : Ev X W c fc) (hm : lastMarks [.LtE, .Lt] [b, c] = false := by with_unfolding_all rfl) : Et X W (.Compare a [.LtE, .Lt] [b, c] pos) (tOf (fChain gLe gLt fa fb fc)) := et_chain op_le op_leS op_lt op_ltS ha hb hc hm
theorem et_if {c a b : Expr} {pos : Pos} {t f g : Sto → Res Bool} (hc : Et X W c t) (ha : Et X W a f) (hb : Et X W b g) (hp : ∀ {tc ta tb : TT}, PT X c tc → PT X a ta → PT X b tb → PT X (.IfExp c a b pos) (fun σ H Q => tc σ H fun b' H' => if b' then ta σ H' Q else tb σ H' Q)) : Et X W (.IfExp c a b pos) (fun E => (t E).bind fun b' => if b' then f E else g E) := by
  refine ⟨weakT (hp hc.pt ha.pt hb.pt) fun σ H Q ⟨E, F, re, o⟩ => ?_⟩
  refine seqT re o fun b' H1 e s1 o1 => ?_
  cases b' with
  | true => exact ⟨E, F, re.same s1, o1⟩
  | false => exact ⟨E, F, re.same s1, o1⟩
theorem pts_of {X' : Cx} {e : Expr} {f : Sto → Res Bool} (h : Et X' Wn e f) : PTs X' [e] (tEt X' Wn f) := pts_one h.pt
theorem XOk.blk (C : XOk k X) {s : Shared} {H : Hp} {sc : Scope} {en : Env} {fp : List Addr} : XOk k (X.blk s H sc en fp) := ⟨C.calm, C.nd, C.hr⟩
end
end PV

/-! PV15: facts of the module by name; the law's own end. -/
namespace PV
open PySem PySem.Spec L2
section
variable {X : Cx} {W : WX} {k : Nat}
theorem ev_kStr {x : Str} {s : Str} {y : Tx} {pos : Pos} (hm : ∃ t, X.mg x = some (.str s t)) (hy : s.cps.toList = y := by rfl) (hg : Gl X x := by rfl) (hd : (x == ("__debug__" : Str)) = false := by decide) : Ev X W (.Name x pos) (fC (.str y)) := by
  obtain ⟨t, h⟩ := hm
  exact ev_gStr h hy hg hd
theorem ev_kInt {x : Str} {i : Int} {pos : Pos} (hm : ∃ t, X.mg x = some (.int i t)) (hg : Gl X x := by rfl) (hd : (x == ("__debug__" : Str)) = false := by decide) : Ev X W (.Name x pos) (fC (.int i)) := by
  obtain ⟨t, h⟩ := hm
  exact ev_gInt h hg hd
def bmV : List Value := [.type "ValueError", .type "Exception", .type "BaseException", .type "object"]
structure ExcK (K : PySem.W.Frag) (mg : Str → Option Value) (x : Str) : Prop where
  ex : ∃ C, mg x = some (.ref C) ∧ PySem.W.excIn K C bmV "ValueError.__new__" = true ∧ PySem.W.keepIn K (.ref C) = true ∧ PySem.W.subIn K (.ref C) (.type "BaseException") = some true ∧ PySem.W.typeIn K (.ref C) = some (.type "type")
theorem es_raiseK (C : XOk k X) (tk : Takes X W) {x m : Str} {c : Tx} {j : Nat} {p p2 pos pos2 : Pos} (e : ExcK X.K X.mg x) (hc : x.cps.toList = c := by rfl) (hg : Gl X x := by rfl) (hdb : (x == ("__debug__" : Str)) = false := by decide) : Es X W (.Raise (some (.Call (.Name x p) [.Constant (.str m) j p2] [] pos)) none pos2) (sRaise c) := by
  obtain ⟨A, h1, h2, h3, h4, h5⟩ := e.ex
  exact es_raise C tk PySem.F.excBase_ValueError h2 h1 h3 (raises_own h4 h5) hc hg hdb
end
/-! ### built-in types by name -/
theorem boot_str : bootBuiltins "str" = some (.type "str") := by decide +kernel
theorem boot_int : bootBuiltins "int" = some (.type "int") := by decide +kernel
theorem boot_bool : bootBuiltins "bool" = some (.type "bool") := by decide +kernel
theorem boot_list : bootBuiltins "list" = some (.type "list") := by decide +kernel
theorem boot_tuple : bootBuiltins "tuple" = some (.type "tuple") := by decide +kernel
theorem ty_str : tyN.all (fun t => kitB t "str" == isB "str" t) = true := by decide +kernel
theorem ty_int : tyN.all (fun t => kitB t "int" == isB "int" t) = true := by decide +kernel
theorem ty_bool : tyN.all (fun t => kitB t "bool" == isB "bool" t) = true := by decide +kernel
theorem ty_list : tyN.all (fun t => kitB t "list" == isB "list" t) = true := by decide +kernel
theorem ty_tuple : tyN.all (fun t => kitB t "tuple" == isB "tuple" t) = true := by decide +kernel
/-! ### the law's end -/
/-- the law's own promise: any script of its kind, and True -/
def spLaw (K : PySem.W.Frag) : Sp := fun vs H Q _ => ∃ (a : Addr) (ns : List Int), vs = [.ref a] ∧ Only H ∧ SqL K H a (ns.map V.int) ∧ ns.length ≤ 63 ∧ (∀ z ∈ ns, Builtin.Int.intBits z ≤ 1048576) ∧ ∀ H', Q (.bl true) H'
/-- what is to be shown of the law's function -/
def LawTrue (c : Con) : Prop := ∀ ns : List Int, ns.length ≤ 63 → (∀ z ∈ ns, Builtin.Int.intBits z ≤ 1048576) → ∃ dp, c [.rol (ns.map .int)] = .ok (.bl true, dp)
theorem law_end {P : Program} {w : World} {K : PySem.W.Frag} {mg : Str → Option Value} {base : Heap} {k : Nat} {f : Addr} {fd : FuncData} {p : Str} {c : Con} (F : FnOk P w K mg base (L2.CX P w) k f fd [p] (spC ⟨K, mg⟩ 1 c)) (L : LawTrue c) : FnOk P w K mg base (L2.CX P w) k f fd [p] (spLaw K) := by
  refine F.imp fun vs H Q E ⟨a, ns, e, hO, hS, hl, hb, q⟩ => ?_
  obtain ⟨dp, hc⟩ := L ns hl hb
  subst e
  refine ⟨[.rol (ns.map .int)], [], ?_, rfl, ?_⟩
  · refine RepL.one ?_
    simp only [Rep]
    refine ⟨a, _, rfl, ?_, ints_reps ns⟩
    rcases hS with (h | h) | h
    · rcases hO a with z | ⟨o, xs, z⟩
      · rw [z] at h
        cases h
      · rw [z] at h
        cases h
    · exact .inl h
    · exact .inr h
  · rw [hc]
    exact fun v H' f' _ r _ _ => by
      rw [rep_bl r]
      exact q H'
theorem law_start {K : PySem.W.Frag} {H : Hp} {a : Addr} {ns : List Int} (hl : ns.length ≤ 63) (hb : ∀ z ∈ ns, Builtin.Int.intBits z ≤ 1048576) (hO : Only H) (hS : SqL K H a (ns.map V.int)) : spLaw K [.ref a] H (fun v _ => v = .bl true) fun _ _ _ => False :=
  ⟨a, ns, rfl, hO, hS, hl, hb, fun _ => rfl⟩
theorem no_exc {P : Program} {w : World} {outer : List Env} {H : Hp} {s : Shared} {e : Value} {s' : Shared} (h : L2.CX P w outer H s (fun _ _ _ => False) e s') : False := by
  obtain ⟨_, _, _, _, _, _, _, _, _, _, _, _, z⟩ := h
  exact z
end PV

/-! PV16: how the pure functions are reckoned: rewriting rules, one a word, without a step under a binder. -/
namespace PV
open PySem PySem.Spec L2
def fin (r : Res Fl) : Res (Dat × Bool) := match r with
  | .ok (.rt d dp) => .ok (d, dp)
  | .ok (.nx _) => .ok (.non, true)
  | .exc c => .exc c
  | _ => .no
theorem e_bok {α β : Type} (a : α) (f : α → Res β) : (Res.ok a).bind f = f a := (rfl)
theorem e_bexc {α β : Type} (c : Tx) (f : α → Res β) : (Res.exc c : Res α).bind f = .exc c := (rfl)
theorem fin_rt {d : Dat} {dp : Bool} : fin (.ok (.rt d dp)) = .ok (d, dp) := (rfl)
theorem fin_nx {E : Sto} : fin (.ok (.nx E)) = .ok (.non, true) := (rfl)
theorem fin_exc {c : Tx} : fin (.exc c) = .exc c := (rfl)
theorem run1 {N : Nat} {g : Sto → Res Fl} {a : Dat} : runF N 1 g [a] = fin (g (some (a, .shr) :: List.replicate (N - 1) none)) := (rfl)
theorem run2 {N : Nat} {g : Sto → Res Fl} {a b : Dat} : runF N 2 g [a, b] = fin (g (some (a, .shr) :: some (b, .shr) :: List.replicate (N - 2) none)) := (rfl)
theorem run3 {N : Nat} {g : Sto → Res Fl} {a b c : Dat} : runF N 3 g [a, b, c] = fin (g (some (a, .shr) :: some (b, .shr) :: some (c, .shr) :: List.replicate (N - 3) none)) := (rfl)
theorem run4 {N : Nat} {g : Sto → Res Fl} {a b c d : Dat} : runF N 4 g [a, b, c, d] = fin (g (some (a, .shr) :: some (b, .shr) :: some (c, .shr) :: some (d, .shr) :: List.replicate (N - 4) none)) := (rfl)
/-! statements -/
def sSeq1 (h : Sto → Res Fl) (fl : Fl) : Res Fl := match fl with
  | .nx E' => h E'
  | fl => .ok fl
theorem e_seq {g h : Sto → Res Fl} {E : Sto} : sSeq g h E = (g E).bind (sSeq1 h) := (rfl)
theorem e_seq_nx {h : Sto → Res Fl} {E : Sto} : sSeq1 h (.nx E) = h E := (rfl)
theorem e_seq_rt {h : Sto → Res Fl} {d : Dat} {b : Bool} : sSeq1 h (.rt d b) = .ok (.rt d b) := (rfl)
theorem e_seq_bk {h : Sto → Res Fl} {E : Sto} : sSeq1 h (.bk E) = .ok (.bk E) := (rfl)
theorem e_seq_ct {h : Sto → Res Fl} {E : Sto} : sSeq1 h (.ct E) = .ok (.ct E) := (rfl)
theorem e_nil {E : Sto} : sNil E = .ok (.nx E) := (rfl)
theorem e_pass {E : Sto} : sPass E = .ok (.nx E) := (rfl)
theorem e_brk {E : Sto} : sBrk E = .ok (.bk E) := (rfl)
theorem e_cnt {E : Sto} : sCnt E = .ok (.ct E) := (rfl)
theorem e_retN {E : Sto} : sRetN E = .ok (.rt .non true) := (rfl)
theorem e_raise {c : Tx} {E : Sto} : sRaise c E = .exc c := (rfl)
def sDrop1 (E : Sto) (_ : Rs) : Res Fl := .ok (.nx E)
theorem e_drop {f : Sto → Res Rs} {E : Sto} : sDrop f E = (f E).bind (sDrop1 E) := (rfl)
theorem e_drop1 {E : Sto} {r : Rs} : sDrop1 E r = .ok (.nx E) := (rfl)
def sRet1 (E : Sto) (r : Rs) : Res Fl := .ok (.rt r.d (decide ((PV.take false r E).2 = .deep)))
theorem e_ret {f : Sto → Res Rs} {E : Sto} : sRet f E = (f E).bind (sRet1 E) := (rfl)
theorem take_flat {k : Bool} {d : Dat} {rt : Bool} {src : List Nat} {E : Sto} : PV.take k ⟨d, rt, src, some []⟩ E = (E, .deep) := by
  simp [PV.take, wipeE]
theorem take_one {d : Dat} {dd : Dat} {rt : Bool} {src : List Nat} {i : Nat} {E : Sto} (h : slot E i = some (dd, .deep)) : PV.take false ⟨d, rt, src, some [i]⟩ E = (E.set i none, .deep) := by
  simp [PV.take, wipeE, kd, h]
theorem e_ret_deep {d : Dat} {rt : Bool} {src : List Nat} {E : Sto} : sRet1 E ⟨d, rt, src, some []⟩ = .ok (.rt d true) := by
  simp [sRet1, take_flat]
theorem e_ret_one {d dd : Dat} {rt : Bool} {src : List Nat} {i : Nat} {E : Sto} (h : slot E i = some (dd, .deep)) : sRet1 E ⟨d, rt, src, some [i]⟩ = .ok (.rt d true) := by
  simp [sRet1, take_one h]
theorem e_ret_none {d : Dat} {rt : Bool} {src : List Nat} {E : Sto} : sRet1 E ⟨d, rt, src, none⟩ = .ok (.rt d false) := by
  cases rt <;> simp [sRet1, PV.take]
def sIf1 (g h : Sto → Res Fl) (E : Sto) (b : Bool) : Res Fl := match b with
  | true => g E
  | false => h E
theorem e_if {t : Sto → Res Bool} {g h : Sto → Res Fl} {E : Sto} : sIf t g h E = (t E).bind (sIf1 g h E) := by
  unfold sIf
  cases t E with
  | ok b => cases b <;> rfl
  | exc c => rfl
  | no => rfl
theorem e_if_t {g h : Sto → Res Fl} {E : Sto} : sIf1 g h E true = g E := (rfl)
theorem e_if_f {g h : Sto → Res Fl} {E : Sto} : sIf1 g h E false = h E := (rfl)
def sSet1 (k : Bool) (i : Nat) (E : Sto) (r : Rs) : Res Fl :=
  if i < (PV.take k r E).1.length then .ok (.nx ((PV.take k r E).1.set i (some (r.d, (PV.take k r E).2)))) else .no
theorem e_set {k : Bool} {i : Nat} {f : Sto → Res Rs} {E : Sto} : sSet k i f E = (f E).bind (sSet1 k i E) := (rfl)
theorem e_set_deep {k : Bool} {i : Nat} {E : Sto} {d : Dat} {rt : Bool} {src : List Nat} (h : i < E.length) : sSet1 k i E ⟨d, rt, src, some []⟩ = .ok (.nx (E.set i (some (d, .deep)))) := by
  simp [sSet1, take_flat, h]
theorem e_set_none {k : Bool} {i : Nat} {E : Sto} {d : Dat} {rt : Bool} {src : List Nat} (h : i < (downE E src).length) : sSet1 k i E ⟨d, rt, src, none⟩ = .ok (.nx ((downE E src).set i (some (d, if rt then .root else .shr)))) := by
  simp [sSet1, PV.take, h]
theorem e_down_nil {E : Sto} : downE E [] = E := (rfl)
theorem e_wipe_nil {E : Sto} : wipeE E [] = E := (rfl)
theorem e_wipe {E : Sto} {i : Nat} {l : List Nat} : wipeE E (i :: l) = (wipeE E l).set i none := (rfl)
/-! expressions -/
theorem e_c {d : Dat} {E : Sto} : fC d E = .ok ⟨d, false, [], some []⟩ := (rfl)
theorem e_slot0 {x : Option (Dat × Kd)} {E : Sto} : slot (x :: E) 0 = x := (rfl)
theorem e_slotS {x : Option (Dat × Kd)} {E : Sto} {i : Nat} : slot (x :: E) (i + 1) = slot E i := (rfl)
def fVar1 (i : Nat) (o : Option (Dat × Kd)) : Res Rs := match o with
  | some (d, k) => .ok (rVar i d k)
  | none => .no
theorem e_var {i : Nat} {E : Sto} : fVar i E = fVar1 i (slot E i) := (rfl)
theorem e_var1 {i : Nat} {d : Dat} {k : Kd} : fVar1 i (some (d, k)) = .ok (rVar i d k) := (rfl)
theorem e_rv_int {i : Nat} {z : Int} {k : Kd} : rVar i (.int z) k = ⟨.int z, false, [], some []⟩ := (rfl)
theorem e_rv_str {i : Nat} {z : Tx} {k : Kd} : rVar i (.str z) k = ⟨.str z, false, [], some []⟩ := (rfl)
theorem e_rv_bl {i : Nat} {z : Bool} {k : Kd} : rVar i (.bl z) k = ⟨.bl z, false, [], some []⟩ := (rfl)
theorem e_rv_non {i : Nat} {k : Kd} : rVar i .non k = ⟨.non, false, [], some []⟩ := (rfl)
theorem e_rv_lstD {i : Nat} {xs : List Dat} : rVar i (.lst xs) .deep = ⟨.lst xs, false, [i], some [i]⟩ := (rfl)
theorem e_rv_lstR {i : Nat} {xs : List Dat} : rVar i (.lst xs) .root = ⟨.lst xs, false, [i], none⟩ := (rfl)
theorem e_rv_lstS {i : Nat} {xs : List Dat} : rVar i (.lst xs) .shr = ⟨.lst xs, false, [i], none⟩ := (rfl)
theorem e_rv_dicD {i : Nat} {ks : List Tx} {xs : List Dat} : rVar i (.dic ks xs) .deep = ⟨.dic ks xs, false, [i], some [i]⟩ := (rfl)
theorem e_rv_dicR {i : Nat} {ks : List Tx} {xs : List Dat} : rVar i (.dic ks xs) .root = ⟨.dic ks xs, false, [i], none⟩ := (rfl)
theorem e_rv_dicS {i : Nat} {ks : List Tx} {xs : List Dat} : rVar i (.dic ks xs) .shr = ⟨.dic ks xs, false, [i], none⟩ := (rfl)
def fBin1 (g : Rs → Rs → Res Rs) (fb : Sto → Res Rs) (E : Sto) (ra : Rs) : Res Rs := (fb E).bind (g ra)
theorem e_bin {g : Rs → Rs → Res Rs} {fa fb : Sto → Res Rs} {E : Sto} : fBin g fa fb E = (fa E).bind (fBin1 g fb E) := (rfl)
theorem e_bin1 {g : Rs → Rs → Res Rs} {fb : Sto → Res Rs} {E : Sto} {ra : Rs} : fBin1 g fb E ra = (fb E).bind (g ra) := (rfl)
theorem e_one {g : Rs → Res Rs} {f : Sto → Res Rs} {E : Sto} : fOne g f E = (f E).bind g := (rfl)
theorem e_tOf {f : Sto → Res Rs} {E : Sto} : tOf f E = (f E).bind toB := (rfl)
theorem e_toB {b rt : Bool} {s : List Nat} {m : Option (List Nat)} : toB ⟨.bl b, rt, s, m⟩ = .ok b := (rfl)
def tNot1 (b : Bool) : Res Bool := .ok (!b)
theorem e_tNot {f : Sto → Res Bool} {E : Sto} : tNot' f E = (f E).bind tNot1 := (rfl)
theorem e_tNot1 {b : Bool} : tNot1 b = .ok (!b) := (rfl)
def tAnd1 (g : Sto → Res Bool) (E : Sto) (b : Bool) : Res Bool := match b with
  | true => g E
  | false => .ok false
def tOr1 (g : Sto → Res Bool) (E : Sto) (b : Bool) : Res Bool := match b with
  | true => .ok true
  | false => g E
theorem e_tAnd {f g : Sto → Res Bool} {E : Sto} : tAnd' f g E = (f E).bind (tAnd1 g E) := by
  unfold tAnd'
  cases f E with
  | ok b => cases b <;> rfl
  | exc c => rfl
  | no => rfl
theorem e_tOr {f g : Sto → Res Bool} {E : Sto} : tOr' f g E = (f E).bind (tOr1 g E) := by
  unfold tOr'
  cases f E with
  | ok b => cases b <;> rfl
  | exc c => rfl
  | no => rfl
theorem e_tAnd_t {g : Sto → Res Bool} {E : Sto} : tAnd1 g E true = g E := (rfl)
theorem e_tAnd_f {g : Sto → Res Bool} {E : Sto} : tAnd1 g E false = .ok false := (rfl)
theorem e_tOr_t {g : Sto → Res Bool} {E : Sto} : tOr1 g E true = .ok true := (rfl)
theorem e_tOr_f {g : Sto → Res Bool} {E : Sto} : tOr1 g E false = g E := (rfl)
/-- both sides reckoned at once: where the right side has an answer anyway -/
theorem e_tOr_ok {g : Sto → Res Bool} {E : Sto} {a b : Bool} (h : g E = .ok b) : tOr1 g E a = .ok (a || b) := by
  cases a
  · exact h
  · rfl
theorem e_tAnd_ok {g : Sto → Res Bool} {E : Sto} {a b : Bool} (h : g E = .ok b) : tAnd1 g E a = .ok (a && b) := by
  cases a
  · rfl
  · exact h
def fAnd1 (g : Sto → Res Rs) (E : Sto) (r : Rs) : Res Rs := match r.d with
  | .bl true => g E
  | .bl false => .ok (rsF (.bl false))
  | _ => .no
def fOr1 (g : Sto → Res Rs) (E : Sto) (r : Rs) : Res Rs := match r.d with
  | .bl true => .ok (rsF (.bl true))
  | .bl false => g E
  | _ => .no
theorem e_and {f g : Sto → Res Rs} {E : Sto} : fAnd f g E = (f E).bind (fAnd1 g E) := (rfl)
theorem e_or {f g : Sto → Res Rs} {E : Sto} : fOr f g E = (f E).bind (fOr1 g E) := by
  unfold fOr
  cases f E with
  | ok r =>
    obtain ⟨d, a, b, c⟩ := r
    cases d <;> try rfl
    rename_i x
    cases x <;> rfl
  | exc c => rfl
  | no => rfl
section
variable {rt rt' : Bool} {s s' : List Nat} {m m' : Option (List Nat)}
theorem e_and_t {g : Sto → Res Rs} {E : Sto} : fAnd1 g E ⟨.bl true, rt, s, m⟩ = g E := (rfl)
theorem e_and_f {g : Sto → Res Rs} {E : Sto} : fAnd1 g E ⟨.bl false, rt, s, m⟩ = .ok ⟨.bl false, false, [], some []⟩ := (rfl)
theorem e_or_t {g : Sto → Res Rs} {E : Sto} : fOr1 g E ⟨.bl true, rt, s, m⟩ = .ok ⟨.bl true, false, [], some []⟩ := (rfl)
theorem e_or_f {g : Sto → Res Rs} {E : Sto} : fOr1 g E ⟨.bl false, rt, s, m⟩ = g E := (rfl)
theorem e_or_ok {g : Sto → Res Rs} {E : Sto} {a b : Bool} (h : g E = .ok ⟨.bl b, false, [], some []⟩) : fOr1 g E ⟨.bl a, rt, s, m⟩ = .ok ⟨.bl (a || b), false, [], some []⟩ := by
  cases a
  · exact h
  · rfl
theorem e_and_ok {g : Sto → Res Rs} {E : Sto} {a b : Bool} (h : g E = .ok ⟨.bl b, false, [], some []⟩) : fAnd1 g E ⟨.bl a, rt, s, m⟩ = .ok ⟨.bl (a && b), false, [], some []⟩ := by
  cases a
  · rfl
  · exact h
def fNot1 (r : Rs) : Res Rs := match r.d with
  | .bl b => .ok (rsF (.bl (!b)))
  | _ => .no
theorem e_not {f : Sto → Res Rs} {E : Sto} : fNot f E = (f E).bind fNot1 := (rfl)
theorem e_not1 {b : Bool} : fNot1 ⟨.bl b, rt, s, m⟩ = .ok ⟨.bl (!b), false, [], some []⟩ := (rfl)
def fNeg1 (r : Rs) : Res Rs := match r.d with
  | .int i => .ok (rsF (.int (-i)))
  | _ => .no
theorem e_neg {f : Sto → Res Rs} {E : Sto} : fNeg f E = (f E).bind fNeg1 := (rfl)
theorem e_neg1 {i : Int} : fNeg1 ⟨.int i, rt, s, m⟩ = .ok ⟨.int (-i), false, [], some []⟩ := (rfl)
def fIf1 (f g : Sto → Res Rs) (E : Sto) (b : Bool) : Res Rs := match b with
  | true => f E
  | false => g E
theorem e_ife {t : Sto → Res Bool} {f g : Sto → Res Rs} {E : Sto} : fIf t f g E = (t E).bind (fIf1 f g E) := by
  unfold fIf
  cases t E with
  | ok b => cases b <;> rfl
  | exc c => rfl
  | no => rfl
theorem e_ife_t {f g : Sto → Res Rs} {E : Sto} : fIf1 f g E true = f E := (rfl)
theorem e_ife_f {f g : Sto → Res Rs} {E : Sto} : fIf1 f g E false = g E := (rfl)
theorem e_aNil {E : Sto} : aNil E = .ok [] := (rfl)
def aCons1 (g : Sto → Res (List Rs)) (E : Sto) (r : Rs) : Res (List Rs) := (g E).bind fun rs => .ok (r :: rs)
def aCons2 (r : Rs) (rs : List Rs) : Res (List Rs) := .ok (r :: rs)
theorem e_aCons {f : Sto → Res Rs} {g : Sto → Res (List Rs)} {E : Sto} : aCons f g E = (f E).bind (aCons1 g E) := (rfl)
theorem e_aCons1 {g : Sto → Res (List Rs)} {E : Sto} {r : Rs} : aCons1 g E r = (g E).bind (aCons2 r) := (rfl)
theorem e_aCons2 {r : Rs} {rs : List Rs} : aCons2 r rs = .ok (r :: rs) := (rfl)
def fTup1 (rs : List Rs) : Res Rs := if rs.length ≤ 1000000 then .ok (rTup rs) else .no
def fLst1 (rs : List Rs) : Res Rs := if rs.length ≤ 1000000 then .ok (rLst rs) else .no
theorem e_tup {a : Sto → Res (List Rs)} {E : Sto} : fTup a E = (a E).bind fTup1 := (rfl)
theorem e_lst {a : Sto → Res (List Rs)} {E : Sto} : fLst a E = (a E).bind fLst1 := (rfl)
theorem e_tup1 {rs : List Rs} (h : rs.length ≤ 1000000) : fTup1 rs = .ok ⟨.tup (rs.map (·.d)), false, allSrc rs, allMv rs⟩ := by
  unfold fTup1
  rw [if_pos h]
  rfl
theorem e_lst1 {rs : List Rs} (h : rs.length ≤ 1000000) : fLst1 rs = .ok ⟨.lst (rs.map (·.d)), true, allSrc rs, allMv rs⟩ := by
  unfold fLst1
  rw [if_pos h]
  rfl
theorem e_src0 : allSrc [] = [] := (rfl)
theorem e_srcS {r : Rs} {rs : List Rs} : allSrc (r :: rs) = r.src ++ allSrc rs := (rfl)
theorem e_mv0 : allMv [] = some [] := (rfl)
def mvC (m : List Nat) (o : Option (List Nat)) : Option (List Nat) := match o with
  | some n => some (m ++ n)
  | none => none
theorem e_mvS {d : Dat} {l : List Nat} {rs : List Rs} : allMv (⟨d, rt, s, some l⟩ :: rs) = mvC l (allMv rs) := by
  simp only [allMv, mvC]
  cases allMv rs <;> rfl
theorem e_mvN {d : Dat} {rs : List Rs} : allMv (⟨d, rt, s, none⟩ :: rs) = none := by
  simp only [allMv]
theorem e_mvC {l n : List Nat} : mvC l (some n) = some (l ++ n) := (rfl)
theorem e_mvC0 {l : List Nat} : mvC l none = none := (rfl)
/-! operators -/
theorem e_add_i {i j : Int} : gAdd ⟨.int i, rt, s, m⟩ ⟨.int j, rt', s', m'⟩ = .ok ⟨.int (i + j), false, [], some []⟩ := (rfl)
theorem e_add_s {x y : Tx} (h : x.length + y.length ≤ 1000000) : gAdd ⟨.str x, rt, s, m⟩ ⟨.str y, rt', s', m'⟩ = .ok ⟨.str (x ++ y), false, [], some []⟩ := if_pos h
theorem e_add_l {x y : List Dat} (h : x.length + y.length ≤ 1000000) : gAdd ⟨.lst x, rt, s, m⟩ ⟨.lst y, rt', s', m'⟩ = .ok (rNewL (x ++ y) (s ++ s')) := if_pos h
theorem e_sub {i j : Int} : gSub ⟨.int i, rt, s, m⟩ ⟨.int j, rt', s', m'⟩ = .ok ⟨.int (i - j), false, [], some []⟩ := (rfl)
theorem e_mod {i j : Int} (h : 0 < j) : gMod ⟨.int i, rt, s, m⟩ ⟨.int j, rt', s', m'⟩ = .ok ⟨.int (i % j), false, [], some []⟩ := by
  show (if cMod i j = true then _ else _) = _
  rw [if_pos (by simpa [cMod] using h)]
  rfl
theorem e_fdv {i j : Int} (h : 0 < j) (h2 : j < 1073741824) : gFdv ⟨.int i, rt, s, m⟩ ⟨.int j, rt', s', m'⟩ = .ok ⟨.int (i / j), false, [], some []⟩ := by
  show (if cFdv i j = true then _ else _) = _
  rw [if_pos (by simp [cFdv, h, h2])]
  rfl
theorem e_mul {i j : Int} (h : cMul i j = true) : gMul ⟨.int i, rt, s, m⟩ ⟨.int j, rt', s', m'⟩ = .ok ⟨.int (i * j), false, [], some []⟩ := by
  show (if cMul i j = true then _ else _) = _
  rw [if_pos h]
  rfl
theorem e_mul_s {x : Tx} {j : Int} (h : -1000000 ≤ j ∧ j ≤ 1000000 ∧ x.length * j.toNat ≤ 1000000) : gMul ⟨.str x, rt, s, m⟩ ⟨.int j, rt', s', m'⟩ = .ok ⟨.str (List.replicate j.toNat x).flatten, false, [], some []⟩ := if_pos h
theorem e_pow18 : gPow ⟨.int 10, rt, s, m⟩ ⟨.int 18, rt', s', m'⟩ = .ok ⟨.int 1000000000000000000, false, [], some []⟩ := by
  have h : cPow 10 18 = true := by decide
  simp only [gPow, gI, h, if_true]
  rfl
theorem e_lt {i j : Int} : gLt ⟨.int i, rt, s, m⟩ ⟨.int j, rt', s', m'⟩ = .ok ⟨.bl (decide (i < j)), false, [], some []⟩ := (rfl)
theorem e_le {i j : Int} : gLe ⟨.int i, rt, s, m⟩ ⟨.int j, rt', s', m'⟩ = .ok ⟨.bl (decide (i ≤ j)), false, [], some []⟩ := (rfl)
theorem e_gt {i j : Int} : gGt ⟨.int i, rt, s, m⟩ ⟨.int j, rt', s', m'⟩ = .ok ⟨.bl (decide (j < i)), false, [], some []⟩ := (rfl)
theorem e_ge {i j : Int} : gGe ⟨.int i, rt, s, m⟩ ⟨.int j, rt', s', m'⟩ = .ok ⟨.bl (decide (j ≤ i)), false, [], some []⟩ := (rfl)
def gEq1 (neg b : Bool) : Res Rs := .ok ⟨.bl (if neg then !b else b), false, [], some []⟩
theorem e_eq {a b : Dat} : gEq ⟨a, rt, s, m⟩ ⟨b, rt', s', m'⟩ = (eqF a b).bind (gEq1 false) := (rfl)
theorem e_ne {a b : Dat} : gNe ⟨a, rt, s, m⟩ ⟨b, rt', s', m'⟩ = (eqF a b).bind (gEq1 true) := (rfl)
theorem e_eq1 {b : Bool} : gEq1 false b = .ok ⟨.bl b, false, [], some []⟩ := (rfl)
theorem e_ne1 {b : Bool} : gEq1 true b = .ok ⟨.bl (!b), false, [], some []⟩ := (rfl)
theorem eqF_s {x y : Tx} : eqF (.str x) (.str y) = .ok (decide (x = y)) := (rfl)
theorem eqF_i {x y : Int} : eqF (.int x) (.int y) = .ok (decide (x = y)) := by
  show Res.ok (x == y) = _
  rw [show (x == y) = decide (x = y) from rfl]
theorem eqF_b {x y : Bool} : eqF (.bl x) (.bl y) = .ok (x == y) := (rfl)
theorem eqF_ln {xs : List Dat} : eqF (.lst xs) (.lst []) = .ok (decide (xs.length = 0)) := by
  cases xs
  · rfl
  · simp [eqF, eqD, vw, eqL]
theorem eqF_rn {xs : List Dat} : eqF (.rol xs) (.lst []) = .ok (decide (xs.length = 0)) := by
  cases xs
  · rfl
  · simp [eqF, eqD, vw, eqL]
theorem e_in_s {neg : Bool} {c : Nat} {y : Tx} : gIn neg ⟨.str [c], rt, s, m⟩ ⟨.str y, rt', s', m'⟩ = .ok (rsB neg (decide (c ∈ y))) := (rfl)
def gIn1 (neg b : Bool) : Res Rs := .ok (rsB neg b)
theorem e_in_l {neg : Bool} {a : Dat} {ys : List Dat} : gIn neg ⟨a, rt, s, m⟩ ⟨.lst ys, rt', s', m'⟩ = (anyEq a ys).bind (gIn1 neg) := (rfl)
theorem e_in_r {neg : Bool} {a : Dat} {ys : List Dat} : gIn neg ⟨a, rt, s, m⟩ ⟨.rol ys, rt', s', m'⟩ = (anyEq a ys).bind (gIn1 neg) := (rfl)
theorem e_in_t {neg : Bool} {a : Dat} {ys : List Dat} : gIn neg ⟨a, rt, s, m⟩ ⟨.tup ys, rt', s', m'⟩ = (anyEq a ys).bind (gIn1 neg) := (rfl)
theorem e_in_d {neg : Bool} {x : Tx} {ks : List Tx} {ds : List Dat} : gIn neg ⟨.str x, rt, s, m⟩ ⟨.dic ks ds, rt', s', m'⟩ = .ok (rsB neg (ks.contains x)) := (rfl)
theorem e_in1 {neg b : Bool} : gIn1 neg b = .ok (rsB neg b) := (rfl)
theorem e_rsB_f {b : Bool} : rsB false b = ⟨.bl b, false, [], some []⟩ := (rfl)
theorem e_rsB_t {b : Bool} : rsB true b = ⟨.bl (!b), false, [], some []⟩ := (rfl)
theorem anyEq_s {x : Tx} : ∀ {ys : List Tx}, anyEq (.str x) (ys.map .str) = .ok (ys.contains x)
  | [] => rfl
  | y :: ys => by
    show (eqF (.str y) (.str x)).bind _ = _
    rw [eqF_s, bind_ok, anyEq_s, bind_ok, List.contains_cons]
    have : decide (y = x) = (x == y) := by
      by_cases h : y = x
      · rw [decide_eq_true h, h]
        exact (beq_self_eq_true x).symm
      · rw [decide_eq_false h]
        exact (beq_eq_false_iff_ne.mpr fun e => h e.symm).symm
    rw [this]
theorem anyEq_c {a y : Dat} {ys : List Dat} {b c : Bool} (h : eqF y a = .ok b) (h2 : anyEq a ys = .ok c) : anyEq a (y :: ys) = .ok (b || c) := by
  show (eqF y a).bind _ = _
  rw [h, bind_ok, h2, bind_ok]
theorem anyEq_0 {a : Dat} : anyEq a [] = .ok false := (rfl)
theorem e_pick_s {r : Rs} {x : Tx} : pick r (.str x) = ⟨.str x, false, [], some []⟩ := (rfl)
theorem e_pick_i {r : Rs} {x : Int} : pick r (.int x) = ⟨.int x, false, [], some []⟩ := (rfl)
theorem e_pick_b {r : Rs} {x : Bool} : pick r (.bl x) = ⟨.bl x, false, [], some []⟩ := (rfl)
theorem e_pick_l {r : Rs} {x : List Dat} : pick r (.lst x) = ⟨.lst x, false, r.src, none⟩ := (rfl)
theorem e_pick_d {r : Rs} {ks : List Tx} {x : List Dat} : pick r (.dic ks x) = ⟨.dic ks x, false, r.src, none⟩ := (rfl)
def subs1 (r : Rs) (o : Option Dat) : Res Rs := match o with
  | some d => .ok (pick r d)
  | none => .no
def subsS (n : Nat) (o : Option Nat) : Res Rs := match o with
  | some c => if n ≤ 1000000 then .ok ⟨.str [c], false, [], some []⟩ else .no
  | none => .no
theorem e_subs_l {xs : List Dat} {i : Int} : gSubs ⟨.lst xs, rt, s, m⟩ ⟨.int i, rt', s', m'⟩ = subs1 ⟨.lst xs, rt, s, m⟩ (dAt xs i) := by
  first
    | (simp only [gSubs, subs1]; done)
    | (simp only [gSubs, subs1]; cases dAt xs i <;> rfl)
theorem e_subs_r {xs : List Dat} {i : Int} : gSubs ⟨.rol xs, rt, s, m⟩ ⟨.int i, rt', s', m'⟩ = subs1 ⟨.rol xs, rt, s, m⟩ (dAt xs i) := by
  first
    | (simp only [gSubs, subs1]; done)
    | (simp only [gSubs, subs1]; cases dAt xs i <;> rfl)
theorem e_subs_t {xs : List Dat} {i : Int} : gSubs ⟨.tup xs, rt, s, m⟩ ⟨.int i, rt', s', m'⟩ = subs1 ⟨.tup xs, rt, s, m⟩ (dAt xs i) := by
  first
    | (simp only [gSubs, subs1]; done)
    | (simp only [gSubs, subs1]; cases dAt xs i <;> rfl)
theorem e_subs_s {x : Tx} {i : Int} : gSubs ⟨.str x, rt, s, m⟩ ⟨.int i, rt', s', m'⟩ = subsS x.length ((ixN x.length i).bind (fun j => x[j]?)) := by
  first
    | (simp only [gSubs, subsS]; done)
    | (simp only [gSubs, subsS]; cases (ixN x.length i).bind (fun j => x[j]?) <;> rfl)
theorem e_subs_d {ks : List Tx} {ds : List Dat} {x : Tx} : gSubs ⟨.dic ks ds, rt, s, m⟩ ⟨.str x, rt', s', m'⟩ = subs1 ⟨.dic ks ds, rt, s, m⟩ (dGet ks ds x) := by
  first
    | (simp only [gSubs, subs1]; done)
    | (simp only [gSubs, subs1]; cases dGet ks ds x <;> rfl)
theorem e_subs1 {r : Rs} {d : Dat} : subs1 r (some d) = .ok (pick r d) := (rfl)
theorem e_subsS {n : Nat} {c : Nat} (h : n ≤ 1000000) : subsS n (some c) = .ok ⟨.str [c], false, [], some []⟩ := by
  unfold subsS
  simp only [if_pos h]
theorem e_oNone {E : Sto} : oNone E = .ok none := (rfl)
def oSome1 (r : Rs) : Res (Option Int) := match r.d with
  | .int i => .ok (some i)
  | _ => .no
theorem e_oSome {f : Sto → Res Rs} {E : Sto} : oSome f E = (f E).bind oSome1 := (rfl)
theorem e_oSome1 {i : Int} : oSome1 ⟨.int i, rt, s, m⟩ = .ok (some i) := (rfl)
def fSl1 (lo hi : Sto → Res (Option Int)) (E : Sto) (r : Rs) : Res Rs := (lo E).bind fun l => (hi E).bind fun h => gSl r l h
def fSl2 (hi : Sto → Res (Option Int)) (E : Sto) (r : Rs) (l : Option Int) : Res Rs := (hi E).bind (gSl r l)
theorem e_sl {f : Sto → Res Rs} {lo hi : Sto → Res (Option Int)} {E : Sto} : fSl f lo hi E = (f E).bind (fSl1 lo hi E) := (rfl)
theorem e_sl1 {lo hi : Sto → Res (Option Int)} {E : Sto} {r : Rs} : fSl1 lo hi E r = (lo E).bind (fSl2 hi E r) := (rfl)
theorem e_sl2 {hi : Sto → Res (Option Int)} {E : Sto} {r : Rs} {l : Option Int} : fSl2 hi E r l = (hi E).bind (gSl r l) := (rfl)
theorem e_sl_s {x : Tx} {lo hi : Option Int} (h : x.length ≤ 1000000) : gSl ⟨.str x, rt, s, m⟩ lo hi = .ok ⟨.str (cutD x lo hi), false, [], some []⟩ := if_pos h
theorem e_sl_l {x : List Dat} {lo hi : Option Int} (h : x.length ≤ 1000000) : gSl ⟨.lst x, rt, s, m⟩ lo hi = .ok (rNewL (cutD x lo hi) s) := if_pos h
theorem e_sl_r {x : List Dat} {lo hi : Option Int} (h : x.length ≤ 1000000) : gSl ⟨.rol x, rt, s, m⟩ lo hi = .ok (rNewL (cutD x lo hi) s) := if_pos h
theorem e_newL {x : List Dat} {l : List Nat} (h : flatL x = true) : rNewL x l = ⟨.lst x, true, l, some []⟩ := by
  unfold rNewL
  rw [if_pos h]
theorem e_newN {x : List Dat} {l : List Nat} (h : flatL x = false) : rNewL x l = ⟨.lst x, true, l, none⟩ := by
  unfold rNewL
  rw [h]
  rfl
theorem e_len_l {x : List Dat} : gLen ⟨.lst x, rt, s, m⟩ = .ok ⟨.int x.length, false, [], some []⟩ := (rfl)
theorem e_len_r {x : List Dat} : gLen ⟨.rol x, rt, s, m⟩ = .ok ⟨.int x.length, false, [], some []⟩ := (rfl)
theorem e_len_t {x : List Dat} : gLen ⟨.tup x, rt, s, m⟩ = .ok ⟨.int x.length, false, [], some []⟩ := (rfl)
theorem e_len_d {ks : List Tx} {x : List Dat} : gLen ⟨.dic ks x, rt, s, m⟩ = .ok ⟨.int ks.length, false, [], some []⟩ := (rfl)
theorem e_len_s {x : Tx} (h : x.length ≤ 1000000) : gLen ⟨.str x, rt, s, m⟩ = .ok ⟨.int x.length, false, [], some []⟩ := if_pos h
theorem ints_map : ∀ ns : List Int, intsOf (ns.map .int) = some ns
  | [] => rfl
  | n :: ns => by
    show (intsOf (ns.map .int)).map _ = _
    rw [ints_map ns]
    rfl
theorem bls_map : ∀ ns : List Bool, blsOf (ns.map .bl) = some ns
  | [] => rfl
  | n :: ns => by
    show (blsOf (ns.map .bl)).map _ = _
    rw [bls_map ns]
    rfl
theorem strs_map : ∀ ns : List Tx, strsOf (ns.map .str) = some ns
  | [] => rfl
  | n :: ns => by
    show (strsOf (ns.map .str)).map _ = _
    rw [strs_map ns]
    rfl
theorem flat_strs : ∀ ns : List Tx, flatL (ns.map .str) = true
  | [] => rfl
  | n :: ns => by
    show (flat (.str n) && flatL (ns.map .str)) = true
    rw [flat_strs ns]
    rfl
theorem flat_ints : ∀ ns : List Int, flatL (ns.map .int) = true
  | [] => rfl
  | n :: ns => by
    show (flat (.int n) && flatL (ns.map .int)) = true
    rw [flat_ints ns]
    rfl
theorem e_sum {ns : List Int} : gSum ⟨.lst (ns.map .int), rt, s, m⟩ = .ok ⟨.int ns.sum, false, [], some []⟩ := by
  simp only [gSum, seqOf, Option.bind, ints_map]
  rfl
theorem e_all {ns : List Bool} : gAll ⟨.lst (ns.map .bl), rt, s, m⟩ = .ok ⟨.bl (ns.all id), false, [], some []⟩ := by
  simp only [gAll, seqOf, Option.bind, bls_map]
  rfl
theorem e_any {ns : List Bool} : gAny ⟨.lst (ns.map .bl), rt, s, m⟩ = .ok ⟨.bl (ns.any id), false, [], some []⟩ := by
  simp only [gAny, seqOf, Option.bind, bls_map]
  rfl
/-! methods of texts -/
def fM11 (g : Tx → Rs → Res Rs) (f : Sto → Res Rs) (E : Sto) (ra : Rs) : Res Rs := match ra.d with
  | .str a => (f E).bind fun rb => g a rb
  | _ => .no
theorem e_m1 {g : Tx → Rs → Res Rs} {fo f : Sto → Res Rs} {E : Sto} : fM1 g fo f E = (fo E).bind (fM11 g f E) := (rfl)
theorem e_m11 {g : Tx → Rs → Res Rs} {f : Sto → Res Rs} {E : Sto} {a : Tx} : fM11 g f E ⟨.str a, rt, s, m⟩ = (f E).bind (g a) := (rfl)
theorem e_startsw {a b : Tx} : gStartsW a ⟨.str b, rt, s, m⟩ = .ok ⟨.bl (a.take b.length == b), false, [], some []⟩ := (rfl)
theorem e_strip {a b : Tx} (h : a.length ≤ 1000000) : gStrip a ⟨.str b, rt, s, m⟩ = .ok ⟨.str (stripL (fun c => b.contains c) a), false, [], some []⟩ := if_pos h
theorem e_lstrip {a b : Tx} (h : a.length ≤ 1000000) : gLstrip a ⟨.str b, rt, s, m⟩ = .ok ⟨.str (a.dropWhile (fun c => b.contains c)), false, [], some []⟩ := if_pos h
theorem e_split {a b : Tx} (h : b ≠ [] ∧ b.all (· < 256) = true ∧ a.length ≤ 1000000) : gSplit a ⟨.str b, rt, s, m⟩ = .ok ⟨.lst ((splitL b a).map Dat.str), true, [], some []⟩ := by
  show (if _ then _ else _) = _
  rw [if_pos h, e_newL (flat_strs _)]
theorem e_join {a : Tx} {ys : List Tx} (h : (ys.map (·.length)).sum + ys.length * a.length ≤ 1000000) : gJoin a ⟨.lst (ys.map .str), rt, s, m⟩ = .ok ⟨.str (joinT a ys), false, [], some []⟩ := by
  simp only [gJoin, seqOf, Option.bind, strs_map]
  rw [if_pos h]
  rfl
/-! iterables, loops, comprehensions -/
theorem e_iOf {f : Sto → Res Rs} {E : Sto} : iOf f E = (f E).bind gItems := (rfl)
theorem e_it_l {xs : List Dat} : gItems ⟨.lst xs, rt, s, m⟩ = .ok (xs, s) := (rfl)
theorem e_it_r {xs : List Dat} : gItems ⟨.rol xs, rt, s, m⟩ = .ok (xs, s) := (rfl)
theorem e_it_t {xs : List Dat} : gItems ⟨.tup xs, rt, s, m⟩ = .ok (xs, s) := (rfl)
theorem e_it_s {x : Tx} : gItems ⟨.str x, rt, s, m⟩ = .ok (x.map (fun c => Dat.str [c]), []) := (rfl)
theorem e_range1 {f : Sto → Res Rs} {E : Sto} : iRange1 f E = (f E).bind gRange1 := (rfl)
theorem e_rg1 {j : Int} (h : -1000000 ≤ j ∧ j ≤ 1000000) : gRange1 ⟨.int j, rt, s, m⟩ = .ok ((List.range j.toNat).map (fun (i : Nat) => Dat.int i), []) := by
  show (if _ then _ else _) = _
  rw [if_pos h]
  simp
def sFor1 (T : Tgt) (g : Sto → Res Fl) (E : Sto) (p : List Dat × List Nat) : Res Fl := forGo T g p.1 (downE E p.2)
theorem e_for {T : Tgt} {fi : Sto → Res (List Dat × List Nat)} {g : Sto → Res Fl} {E : Sto} : sFor T fi g E = (fi E).bind (sFor1 T g E) := (rfl)
theorem e_for1 {T : Tgt} {g : Sto → Res Fl} {E : Sto} {xs : List Dat} {l : List Nat} : sFor1 T g E (xs, l) = forGo T g xs (downE E l) := (rfl)
def fComp1 (T : Tgt) (own : List Nat) (ft : Sto → Res Bool) (fe : Sto → Res Rs) (E : Sto) (p : List Dat × List Nat) : Res Rs := match compGo (stepC T (wipeE E own) ft fe) p.1 with
  | .ok rs => if rs.length ≤ 1000000 then .ok (rComp T rs p.2) else .no
  | _ => .no
theorem e_comp {T : Tgt} {own : List Nat} {fi : Sto → Res (List Dat × List Nat)} {ft : Sto → Res Bool} {fe : Sto → Res Rs} {E : Sto} : fComp T own fi ft fe E = (fi E).bind (fComp1 T own ft fe E) := (rfl)
theorem e_comp1 {T : Tgt} {own : List Nat} {ft : Sto → Res Bool} {fe : Sto → Res Rs} {E : Sto} {xs : List Dat} {l : List Nat} {rs : List Rs} (h : compGo (stepC T (wipeE E own) ft fe) xs = .ok rs) (h2 : rs.length ≤ 1000000) : fComp1 T own ft fe E (xs, l) = .ok (rComp T rs l) := by
  simp only [fComp1, h, if_pos h2]
theorem e_tTrue {E : Sto} : tTrue E = .ok true := (rfl)
/-- a comprehension's items: with a test, by functions -/
theorem compGo_of {st : Dat → Res (Option Rs)} {α : Type} {e : α → Dat} {p : α → Bool} {f : α → Rs} : ∀ {xs : List α}, (∀ x ∈ xs, st (e x) = .ok (if p x then some (f x) else none)) → compGo st (xs.map e) = .ok ((xs.filter p).map f)
  | [], _ => rfl
  | x :: xs, h => by
    have ih := compGo_of (xs := xs) fun y hy => h y (List.mem_cons_of_mem _ hy)
    show (st (e x)).bind _ = _
    rw [h x List.mem_cons_self, bind_ok, ih, bind_ok]
    cases hp : p x
    · rw [List.filter_cons_of_neg (by simp [hp])]
      rfl
    · rw [List.filter_cons_of_pos hp]
      rfl
/-- the same without one -/
theorem compGo_map {st : Dat → Res (Option Rs)} {α : Type} {e : α → Dat} {f : α → Rs} {xs : List α} (h : ∀ x ∈ xs, st (e x) = .ok (some (f x))) : compGo st (xs.map e) = .ok (xs.map f) := by
  have := compGo_of (st := st) (e := e) (p := fun _ => true) (f := f) (xs := xs) (by simpa using h)
  rw [List.filter_eq_self.mpr fun _ _ => rfl] at this
  exact this
def stepC1 (fe : Sto → Res Rs) (E1 : Sto) (b : Bool) : Res (Option Rs) := match b with
  | true => (fe E1).bind fun r => .ok (some r)
  | false => .ok none
def stepC2 (r : Rs) : Res (Option Rs) := .ok (some r)
theorem e_step {T : Tgt} {E E1 : Sto} {ft : Sto → Res Bool} {fe : Sto → Res Rs} {d : Dat} (h : bindT T d E = some E1) : stepC T E ft fe d = (ft E1).bind (stepC1 fe E1) := by
  simp only [stepC, h]
  cases ft E1 with
  | ok b => cases b <;> rfl
  | exc c => rfl
  | no => rfl
theorem e_step_t {fe : Sto → Res Rs} {E1 : Sto} : stepC1 fe E1 true = (fe E1).bind stepC2 := (rfl)
theorem e_step_f {fe : Sto → Res Rs} {E1 : Sto} : stepC1 fe E1 false = .ok none := (rfl)
theorem e_step2 {r : Rs} : stepC2 r = .ok (some r) := (rfl)
theorem e_bind1 {i : Nat} {d : Dat} {E : Sto} (h : i < E.length) : bindT (.one i) d E = some (E.set i (some (d, .shr))) := if_pos h
theorem rComp_flat {T : Tgt} {rs : List Rs} {l : List Nat} (h : ∀ r ∈ rs, r.mv = some []) : (rComp T rs l).mv = some [] := by
  show (if rs.all isDeep then some [] else none) = _
  rw [if_pos (List.all_eq_true.mpr fun r hr => by simp [isDeep, h r hr])]
/-! calls -/
def fCall1 (n : Nat) (c : Con) (rs : List Rs) : Res Rs := if rs.length ≠ n then .no else match c (rs.map (·.d)) with
  | .ok (d, dp) => .ok (if flat d then rsF d else if dp then ⟨d, false, [], some []⟩ else ⟨d, false, allSrc rs, none⟩)
  | .exc cl => .exc cl
  | .no => .no
theorem e_call {n : Nat} {c : Con} {a : Sto → Res (List Rs)} {E : Sto} : fCall n c a E = (a E).bind (fCall1 n c) := (rfl)
def fCall2 (rs : List Rs) (p : Dat × Bool) : Res Rs := .ok (if flat p.1 then rsF p.1 else if p.2 then ⟨p.1, false, [], some []⟩ else ⟨p.1, false, allSrc rs, none⟩)
theorem e_call1 {n : Nat} {c : Con} {rs : List Rs} (h : rs.length = n) : fCall1 n c rs = (c (rs.map (·.d))).bind (fCall2 rs) := by
  unfold fCall1
  rw [if_neg (fun z => z h)]
  cases c (rs.map (·.d)) with
  | ok p => rfl
  | exc c => rfl
  | no => rfl
theorem e_call_s {rs : List Rs} {x : Tx} {b : Bool} : fCall2 rs (.str x, b) = .ok ⟨.str x, false, [], some []⟩ := (rfl)
theorem e_call_i {rs : List Rs} {x : Int} {b : Bool} : fCall2 rs (.int x, b) = .ok ⟨.int x, false, [], some []⟩ := (rfl)
theorem e_call_b {rs : List Rs} {x : Bool} {b : Bool} : fCall2 rs (.bl x, b) = .ok ⟨.bl x, false, [], some []⟩ := (rfl)
theorem e_call_n {rs : List Rs} {b : Bool} : fCall2 rs (.non, b) = .ok ⟨.non, false, [], some []⟩ := (rfl)
theorem e_call_l {rs : List Rs} {x : List Dat} : fCall2 rs (.lst x, true) = .ok ⟨.lst x, false, [], some []⟩ := (rfl)
theorem e_call_d {rs : List Rs} {ks : List Tx} {x : List Dat} : fCall2 rs (.dic ks x, true) = .ok ⟨.dic ks x, false, [], some []⟩ := (rfl)
theorem e_isi_s {t : String} {own : Tx → Option Bool} {x : Tx} : gIsi (isT t) own ⟨.str x, rt, s, m⟩ = .ok ⟨.bl (decide ("str" = t)), false, [], some []⟩ := by
  show (match isT t "str" with | some b => Res.ok (rsF (.bl b)) | none => .no) = _
  have : isT t "str" = some (decide ("str" = t)) := by
    unfold isT isB
    rw [if_pos (by decide)]
    by_cases h : "str" = t
    · rw [if_pos h, decide_eq_true h]
    · rw [if_neg h, if_neg (fun z => absurd z.1 (by decide)), decide_eq_false h]
  rw [this]
  rfl
end
/-! slices, all places -/
theorem e_cut_hi {α : Type} {xs : List α} {z : Int} (h : 0 ≤ z) : cutD xs none (some z) = xs.take z.toNat := by
  obtain ⟨k, rfl⟩ := Int.eq_ofNat_of_zero_le h
  unfold cutD
  rw [HT.sIx_none, HT.sIx_nat, List.drop_zero, Nat.sub_zero]
  show List.take (min k xs.length) xs = List.take k xs
  by_cases hk : k ≤ xs.length
  · rw [Nat.min_eq_left hk]
  · rw [Nat.min_eq_right (by omega), List.take_of_length_le (Nat.le_refl _), List.take_of_length_le (by omega)]
theorem e_cut_lo {α : Type} {xs : List α} {z : Int} (h : 0 ≤ z) : cutD xs (some z) none = xs.drop z.toNat := by
  obtain ⟨k, rfl⟩ := Int.eq_ofNat_of_zero_le h
  unfold cutD
  rw [HT.sIx_none, HT.sIx_nat]
  show List.take (xs.length - min k xs.length) (List.drop (min k xs.length) xs) = List.drop k xs
  by_cases hk : k ≤ xs.length
  · rw [Nat.min_eq_left hk, List.take_of_length_le (by rw [List.length_drop]; exact Nat.le_refl _)]
  · rw [Nat.min_eq_right (by omega), List.drop_of_length_le (Nat.le_refl _), List.drop_of_length_le (by omega), List.take_nil]
theorem e_cut_mid {α : Type} {xs : List α} {z y : Int} (h : 0 ≤ z) (h2 : 0 ≤ y) : cutD xs (some z) (some y) = (xs.drop z.toNat).take (y.toNat - z.toNat) := by
  obtain ⟨k, rfl⟩ := Int.eq_ofNat_of_zero_le h
  obtain ⟨l, rfl⟩ := Int.eq_ofNat_of_zero_le h2
  unfold cutD
  rw [HT.sIx_nat, HT.sIx_nat]
  show List.take (min l xs.length - min k xs.length) (List.drop (min k xs.length) xs) = List.take (l - k) (List.drop k xs)
  by_cases hk : k ≤ xs.length
  · rw [Nat.min_eq_left hk]
    by_cases hl : l ≤ xs.length
    · rw [Nat.min_eq_left hl]
    · rw [Nat.min_eq_right (by omega), List.take_of_length_le (by rw [List.length_drop]; exact Nat.le_refl _), List.take_of_length_le (by rw [List.length_drop]; omega)]
  · rw [Nat.min_eq_right (by omega : xs.length ≤ k), List.drop_of_length_le (Nat.le_refl _), List.drop_of_length_le (by omega), List.take_nil, List.take_nil]
theorem e_cut_last {α : Type} {xs : List α} : cutD xs (some (-1)) none = xs.drop (xs.length - 1) := by
  unfold cutD
  rw [HT.sIx_none]
  have : HT.sIx xs.length 0 (some (-1)) = xs.length - 1 := by
    show (if (-1 : Int) < 0 then ((-1 : Int) + (xs.length : Int)).toNat else min (-1 : Int).toNat xs.length) = _
    rw [if_pos (by decide)]
    omega
  rw [this, List.take_of_length_le (by rw [List.length_drop]; exact Nat.le_refl _)]
theorem e_cut_init {α : Type} {xs : List α} : cutD xs none (some (-1)) = xs.take (xs.length - 1) := by
  unfold cutD
  rw [HT.sIx_none]
  have : HT.sIx xs.length xs.length (some (-1)) = xs.length - 1 := by
    show (if (-1 : Int) < 0 then ((-1 : Int) + (xs.length : Int)).toNat else min (-1 : Int).toNat xs.length) = _
    rw [if_pos (by decide)]
    omega
  rw [this, List.drop_zero, Nat.sub_zero]
theorem dAt_nat {xs : List Dat} {z : Int} (h : 0 ≤ z) (h2 : z.toNat < xs.length) : dAt xs z = xs[z.toNat]? := by
  unfold dAt ixN
  rw [if_pos h, if_pos (by omega)]
  rfl
theorem dAt_map {α : Type} {e : α → Dat} {xs : List α} {z : Int} (h : 0 ≤ z) (h2 : z < xs.length) : ∃ x, xs[z.toNat]? = some x ∧ x ∈ xs ∧ dAt (xs.map e) z = some (e x) := by
  have hl : z.toNat < xs.length := by omega
  refine ⟨xs[z.toNat], List.getElem?_eq_getElem hl, List.getElem_mem hl, ?_⟩
  rw [dAt_nat h (by simpa using hl), List.getElem?_map, List.getElem?_eq_getElem hl]
  rfl
section
variable {rt rt' : Bool} {s s' : List Nat} {m m' : Option (List Nat)}
theorem e_rv_rol {i : Nat} {ns : List Int} {k : Kd} : rVar i (.rol (ns.map .int)) k = ⟨.rol (ns.map .int), false, [], some []⟩ := by
  unfold rVar
  have : flat (.rol (ns.map .int)) = true := by
    show flatL _ = true
    exact flat_ints ns
  rw [if_pos this]
  rfl
def sPar1 (is : List Nat) (E : Sto) (rs : List Rs) : Res Fl := match sPar.bindK is (rs.map (·.d)) (PV.take false (rTup rs) E).2 (PV.take false (rTup rs) E).1 with
  | some E' => .ok (.nx E')
  | none => .no
theorem e_par {is : List Nat} {f : Sto → Res (List Rs)} {E : Sto} : sPar is f E = (f E).bind (sPar1 is E) := (rfl)
theorem e_par2 {i j : Nat} {E : Sto} {a b : Dat} (hi : i < E.length) (hj : j < E.length) (h : decide (i = j) = false) : sPar1 [i, j] E [⟨a, rt, s, some []⟩, ⟨b, rt', s', some []⟩] = .ok (.nx ((E.set i (some (a, .deep))).set j (some (b, .deep)))) := by
  have hne : ¬ i = j := of_decide_eq_false h
  have e : rTup [⟨a, rt, s, some []⟩, ⟨b, rt', s', some []⟩] = ⟨.tup [a, b], false, s ++ (s' ++ []), some []⟩ := rfl
  unfold sPar1
  rw [e, take_flat]
  simp [sPar.bindK, hi, hj, hne]
theorem e_par3 {i j l : Nat} {E : Sto} {a b c : Dat} {rt'' : Bool} {s'' : List Nat} (hi : i < E.length) (hj : j < E.length) (hl : l < E.length) (h : decide (i = j) = false) (h1 : decide (i = l) = false) (h2 : decide (j = l) = false) :
    sPar1 [i, j, l] E [⟨a, rt, s, some []⟩, ⟨b, rt', s', some []⟩, ⟨c, rt'', s'', some []⟩] = .ok (.nx (((E.set i (some (a, .deep))).set j (some (b, .deep))).set l (some (c, .deep)))) := by
  have hne : ¬ i = j := of_decide_eq_false h
  have hn1 : ¬ i = l := of_decide_eq_false h1
  have hn2 : ¬ j = l := of_decide_eq_false h2
  have e : rTup [⟨a, rt, s, some []⟩, ⟨b, rt', s', some []⟩, ⟨c, rt'', s'', some []⟩] = ⟨.tup [a, b, c], false, s ++ (s' ++ (s'' ++ [])), some []⟩ := rfl
  unfold sPar1
  rw [e, take_flat]
  simp [sPar.bindK, hi, hj, hl, hne, hn1, hn2]
theorem rComp_F {α : Type} {f : α → Dat} {xs : List α} {T : Tgt} {l : List Nat} : rComp T (xs.map fun x => ⟨f x, false, [], some []⟩) l = ⟨.lst (xs.map f), true, l, some []⟩ := by
  have h1 : (rComp T (xs.map fun x => ⟨f x, false, [], some []⟩) l).mv = some [] := rComp_flat fun r hr => by
    obtain ⟨x, _, rfl⟩ := List.mem_map.mp hr
    rfl
  have h2 : allSrc (xs.map fun x => (⟨f x, false, [], some []⟩ : Rs)) = [] := by
    unfold allSrc
    rw [List.flatMap_eq_nil_iff]
    intro r hr
    obtain ⟨x, _, rfl⟩ := List.mem_map.mp hr
    rfl
  have h3 : (xs.map fun x => (⟨f x, false, [], some []⟩ : Rs)).map (·.d) = xs.map f := by
    rw [List.map_map]
    rfl
  have h4 : rComp T (xs.map fun x => ⟨f x, false, [], some []⟩) l = ⟨.lst ((xs.map fun x => (⟨f x, false, [], some []⟩ : Rs)).map (·.d)), true, (allSrc (xs.map fun x => (⟨f x, false, [], some []⟩ : Rs))).filter (fun j => decide (j ∉ slotsT T)) ++ l, (rComp T (xs.map fun x => ⟨f x, false, [], some []⟩) l).mv⟩ := rfl
  rw [h4, h1, h2, h3]
  rfl
theorem gAll_F {α : Type} {f : α → Bool} {xs : List α} : gAll ⟨.lst (xs.map fun x => .bl (f x)), rt, s, m⟩ = .ok ⟨.bl (xs.all f), false, [], some []⟩ := by
  have : (xs.map fun x => Dat.bl (f x)) = (xs.map f).map .bl := by
    rw [List.map_map]
    rfl
  rw [this, e_all, List.all_map]
  rfl
theorem gAny_F {α : Type} {f : α → Bool} {xs : List α} : gAny ⟨.lst (xs.map fun x => .bl (f x)), rt, s, m⟩ = .ok ⟨.bl (xs.any f), false, [], some []⟩ := by
  have : (xs.map fun x => Dat.bl (f x)) = (xs.map f).map .bl := by
    rw [List.map_map]
    rfl
  rw [this, e_any, List.any_map]
  rfl
end
/-! ### numbers of any size -/
theorem cMul_of {i j : Int} {m n : Nat} (hi : Builtin.Int.intBits i ≤ m) (hj : Builtin.Int.intBits j ≤ n) (h : m + n ≤ 134217728) : cMul i j = true := by
  unfold cMul
  rw [decide_eq_true_eq]
  omega
def wh2 (t : Sto → Res Bool) (g : Sto → Res Fl) (n : Nat) (fl : Fl) : Res Fl := match fl with
  | .nx E' => whileGo t g n E'
  | .ct E' => whileGo t g n E'
  | .bk E' => .ok (.nx E')
  | .rt d dp => .ok (.rt d dp)
def wh1 (t : Sto → Res Bool) (g : Sto → Res Fl) (n : Nat) (E : Sto) (b : Bool) : Res Fl := match b with
  | true => (g E).bind (wh2 t g n)
  | false => .ok (.nx E)
/-- one turn (not among the rules: by hand) -/
theorem while_S {t : Sto → Res Bool} {g : Sto → Res Fl} {n : Nat} {E : Sto} : whileGo t g (n + 1) E = (t E).bind (wh1 t g n E) := by
  simp only [whileGo]
  cases t E with
  | ok b =>
    cases b
    · rfl
    · show (g E).bind _ = (g E).bind _
      cases g E with
      | ok fl => cases fl <;> rfl
      | exc c => rfl
      | no => rfl
  | exc c => rfl
  | no => rfl
theorem e_wh1_t {t : Sto → Res Bool} {g : Sto → Res Fl} {n : Nat} {E : Sto} : wh1 t g n E true = (g E).bind (wh2 t g n) := (rfl)
theorem e_wh1_f {t : Sto → Res Bool} {g : Sto → Res Fl} {n : Nat} {E : Sto} : wh1 t g n E false = .ok (.nx E) := (rfl)
theorem e_wh2_nx {t : Sto → Res Bool} {g : Sto → Res Fl} {n : Nat} {E : Sto} : wh2 t g n (.nx E) = whileGo t g n E := (rfl)
theorem e_wh2_ct {t : Sto → Res Bool} {g : Sto → Res Fl} {n : Nat} {E : Sto} : wh2 t g n (.ct E) = whileGo t g n E := (rfl)
theorem e_wh2_bk {t : Sto → Res Bool} {g : Sto → Res Fl} {n : Nat} {E : Sto} : wh2 t g n (.bk E) = .ok (.nx E) := (rfl)
theorem e_wh2_rt {t : Sto → Res Bool} {g : Sto → Res Fl} {n : Nat} {d : Dat} {b : Bool} : wh2 t g n (.rt d b) = .ok (.rt d b) := (rfl)
/-! ### loops by an invariant -/
theorem forGo_inv {T : Tgt} {g : Sto → Res Fl} (I : List Dat → Sto → Prop) : ∀ {ds : List Dat} {E : Sto}, I ds E → (∀ d rest E, I (d :: rest) E → ∃ E1 E2, bindT T d E = some E1 ∧ (g E1 = .ok (.nx E2) ∨ g E1 = .ok (.ct E2)) ∧ I rest E2) → ∃ E', forGo T g ds E = .ok (.nx E') ∧ I [] E'
  | [], E, h, _ => ⟨E, rfl, h⟩
  | d :: ds, E, h, st => by
    obtain ⟨E1, E2, hb, hg, hi⟩ := st d ds E h
    obtain ⟨E', h1, h2⟩ := forGo_inv I hi st
    refine ⟨E', ?_, h2⟩
    simp only [forGo, hb]
    rcases hg with hg | hg
    · rw [hg]
      exact h1
    · rw [hg]
      exact h1
end PV

namespace PV
open PySem PySem.Spec L2
def y_is_title_1 : Sto → Res Rs := fOr (fBin (gIn false) (fVar 1) (fC (.str [97, 98, 99, 100, 101, 102, 103, 104, 105, 106, 107, 108, 109, 110, 111, 112, 113, 114, 115, 116, 117, 118, 119, 120, 121, 122]))) (fBin (gIn false) (fVar 1) (fTup (aCons (fC (.str [32])) (aCons (fC (.str [58])) aNil))))
/-- is_title(thing); slots thing, sign -/
def g_is_title : Sto → Res Fl := sSeq (sIf (tOr' (tNot' (tOf (fOne (gIsi (isT "str") noOwn) (fVar 0)))) (tOf (fBin gGt (fOne gLen (fVar 0)) (fC (.int 12))))) (sRet (fC (.bl false))) sNil) (sRet (fOne gAll (fComp (.one 1) [1] (iOf (fVar 0)) tTrue y_is_title_1)))
def c_is_title : Con := runF 2 1 g_is_title
def q_bare_of_1 : Sto → Res Bool := tOf (fBin gNe (fVar 2) (fC (.str [])))
def y_bare_of_1 : Sto → Res Rs := fVar 2
def t_bare_of_1 : Sto → Res Bool := tOf (fM1 gStartsW (fVar 1) (fC (.str [114, 101, 58])))
def b_bare_of_1 : Sto → Res Fl := sSet false 1 (fM1 gStrip (fSl (fVar 1) (oSome (fC (.int 3))) oNone) (fC (.str [32])))
/-- bare_of(title); slots title, found, word -/
def g_bare_of : Sto → Res Fl := sSeq (sSet false 1 (fM1 gJoin (fC (.str [32])) (fComp (.one 2) [2] (iOf (fM1 gSplit (fVar 0) (fC (.str [32])))) q_bare_of_1 y_bare_of_1))) (sSeq (whileGo t_bare_of_1 b_bare_of_1 1000) (sRet (fVar 1)))
def c_bare_of : Con := runF 3 1 g_bare_of
/-- bare(title); slots title -/
def g_bare : Sto → Res Fl := sSeq (sIf (tNot' (tOf (fCall 1 c_is_title (aCons (fVar 0) aNil)))) (sRaise [66, 97, 100, 84, 105, 116, 108, 101]) sNil) (sRet (fCall 1 c_bare_of (aCons (fVar 0) aNil)))
def c_bare : Con := runF 1 1 g_bare
/-- _law_number(_law_cell, _law_at, _law_whole); slots _law_cell, _law_at, _law_whole, _law_mixed, _law_more -/
def g__law_number : Sto → Res Fl := sSeq (sIf (tOf (fBin gGe (fVar 0) (fBin gPow (fC (.int 10)) (fC (.int 18))))) (sRet (fVar 0)) sNil) (sSeq (sSet false 3 (fBin gMod (fBin gAdd (fBin gMul (fBin gAdd (fVar 0) (fBin gMul (fC (.int 977)) (fVar 1))) (fC (.int 48271))) (fVar 2)) (fC (.int 2147483647)))) (sSeq (sSet false 4 (fBin gMul (fBin gMul (fVar 3) (fBin gAdd (fBin gAdd (fVar 3) (fBin gMul (fC (.int 31)) (fVar 1))) (fC (.int 7)))) (fBin gAdd (fBin gAdd (fVar 3) (fVar 0)) (fC (.int 5))))) (sRet (fBin gFdv (fBin gMul (fVar 4) (fBin gAdd (fVar 4) (fC (.int 48271)))) (fC (.int 1009))))))
def c__law_number : Con := runF 5 3 g__law_number
def b__law_bare_1 : Sto → Res Fl := sIf (tOr' (tOf (fBin gNe (fVar 2) (fC (.str [32])))) (tOf (fBin (gIn true) (fSl (fVar 1) (oSome (fNeg (fC (.int 1)))) oNone) (fTup (aCons (fC (.str [])) (aCons (fC (.str [32])) aNil)))))) (sSet false 1 (fBin gAdd (fVar 1) (fVar 2))) sNil
def t__law_bare_1 : Sto → Res Bool := tOf (fBin gEq (fSl (fVar 1) oNone (oSome (fC (.int 3)))) (fC (.str [114, 101, 58])))
def b__law_bare_2 : Sto → Res Fl := sSet false 1 (fIf (tOf (fBin gEq (fSl (fVar 1) (oSome (fC (.int 3))) (oSome (fC (.int 4)))) (fC (.str [32])))) (fSl (fVar 1) (oSome (fC (.int 4))) oNone) (fSl (fVar 1) (oSome (fC (.int 3))) oNone))
/-- _law_bare(_law_title); slots _law_title, _law_found, _law_sign -/
def g__law_bare : Sto → Res Fl := sSeq (sSet false 1 (fC (.str []))) (sSeq (sFor (.one 2) (iOf (fVar 0)) b__law_bare_1) (sSeq (sSet true 1 (fIf (tOf (fBin gEq (fSl (fVar 1) (oSome (fNeg (fC (.int 1)))) oNone) (fC (.str [32])))) (fSl (fVar 1) oNone (oSome (fNeg (fC (.int 1))))) (fVar 1))) (sSeq (whileGo t__law_bare_1 b__law_bare_2 1000) (sRet (fVar 1)))))
def c__law_bare : Con := runF 3 1 g__law_bare
def b_law_1 : Sto → Res Fl := sSeq (sSet false 8 (fBin gFdv (fCall 3 c__law_number (aCons (fBin gSubs (fVar 1) (fBin gMod (fBin gAdd (fVar 7) (fVar 5)) (fOne gLen (fVar 1)))) (aCons (fBin gAdd (fVar 7) (fBin gMul (fC (.int 7)) (fVar 5))) (aCons (fVar 2) aNil)))) (fC (.int 3)))) (sSeq (sSet false 9 (fBin gSubs (fVar 4) (fBin gMod (fVar 8) (fIf (tOf (fBin gEq (fBin gMod (fVar 5) (fC (.int 2))) (fC (.int 0)))) (fC (.int 10)) (fC (.int 4)))))) (sSet false 6 (fBin gAdd (fVar 6) (fIf (tOf (fBin gEq (fVar 9) (fC (.str [97, 98, 32, 99])))) (fBin gAdd (fBin gSubs (fVar 3) (fBin gMod (fBin gFdv (fVar 8) (fC (.int 10))) (fC (.int 26)))) (fC (.str [32]))) (fVar 9)))))
def b_law_2 : Sto → Res Fl := sSeq (sSet false 6 (fC (.str []))) (sSeq (sFor (.one 7) (iRange1 (fBin gMod (fBin gFdv (fCall 3 c__law_number (aCons (fVar 2) (aCons (fBin gAdd (fVar 5) (fC (.int 1))) (aCons (fC (.int 3)) aNil)))) (fC (.int 3))) (fC (.int 9)))) b_law_1) (sSeq (sSet false 6 (fSl (fVar 6) oNone (oSome (fC (.int 12))))) (sSeq (sSet false 10 (fCall 1 c_bare (aCons (fVar 6) aNil))) (sIf (tOr' (tNot' (tOf (fOne (gIsi (isT "str") noOwn) (fVar 10)))) (tOr' (tOf (fBin gNe (fVar 10) (fCall 1 c__law_bare (aCons (fVar 6) aNil)))) (tOf (fBin gNe (fCall 1 c_bare (aCons (fVar 10) aNil)) (fVar 10))))) (sRet (fC (.bl false))) sNil))))
/-- law(_law_script); slots _law_script, _law_cells, _law_whole, _law_signs, _law_pieces, _law_by, _law_title, _law_at, _law_number_here, _law_piece, _law_found -/
def g_law : Sto → Res Fl := sSeq (sSet false 1 (fIf (tOf (fBin gNe (fVar 0) (fLst aNil))) (fSl (fVar 0) oNone (oSome (fC (.int 63)))) (fLst (aCons (fC (.int 5)) aNil)))) (sSeq (sPar [2, 3] (aCons (fOne gSum (fVar 1)) (aCons (fC (.str [97, 98, 99, 100, 101, 102, 103, 104, 105, 106, 107, 108, 109, 110, 111, 112, 113, 114, 115, 116, 117, 118, 119, 120, 121, 122])) aNil))) (sSeq (sSet false 4 (fLst (aCons (fC (.str [114, 101, 58])) (aCons (fC (.str [32])) (aCons (fC (.str [114, 101, 58, 32])) (aCons (fC (.str [120])) (aCons (fC (.str [114, 101])) (aCons (fC (.str [58])) (aCons (fC (.str [32, 32])) (aCons (fC (.str [97, 98, 32, 99])) (aCons (fC (.str [114])) (aCons (fC (.str [101, 58])) aNil)))))))))))) (sSeq (sFor (.one 5) (iRange1 (fC (.int 6))) b_law_2) (sRet (fAnd (fBin gEq (fCall 1 c_bare (aCons (fC (.str [32, 114, 101, 58, 114, 101, 58, 120, 32, 32, 121])) aNil)) (fC (.str [120, 32, 121]))) (fAnd (fBin gEq (fCall 1 c_bare (aCons (fC (.str [114, 101])) aNil)) (fC (.str [114, 101]))) (fAnd (fBin gEq (fCall 1 c_bare (aCons (fC (.str [114, 101, 58])) aNil)) (fC (.str []))) (fBin gEq (fCall 1 c_bare (aCons (fC (.str [120, 32, 114, 101, 58, 32, 121])) aNil)) (fC (.str [120, 32, 114, 101, 58, 32, 121]))))))))))
def c_law : Con := runF 11 1 g_law
end PV

/-! the number that a law makes of a cell -/
namespace PV
open PySem PySem.Spec L2
def numL (a b c : Int) : Int := if 1000000000000000000 ≤ a then a else
  let m := ((a + 977 * b) * 48271 + c) % 2147483647
  let r := m * (m + 31 * b + 7) * (m + a + 5)
  r * (r + 48271) / 1009
theorem bits_lit {z : Int} {n : Nat} (h : z.natAbs < 2 ^ n) : Builtin.Int.intBits z ≤ n := intBits_le_iff.mpr h
theorem numE {a b c : Int} (ha : Builtin.Int.intBits a ≤ 2000000) (hb : Builtin.Int.intBits b ≤ 2000000) (hc : Builtin.Int.intBits c ≤ 2000000) : c__law_number [.int a, .int b, .int c] = .ok (.int (numL a b c), true) := by
  unfold c__law_number g__law_number
  by_cases h1 : (1000000000000000000 : Int) ≤ a
  · simp only [e_bok, e_bexc, fin_rt, fin_nx, fin_exc, run1, run2, run3, run4, e_seq, e_seq_nx, e_seq_rt, e_seq_bk, e_seq_ct, e_nil, e_pass, e_brk, e_cnt, e_retN, e_raise, e_drop, e_drop1, e_ret, take_flat, e_ret_deep, e_ret_one, e_ret_none, e_if, e_if_t, e_if_f, e_set, e_set_deep, e_set_none, e_down_nil, e_wipe_nil, e_wipe, e_c, e_slot0, e_slotS, e_var, e_var1, e_rv_int, e_rv_str, e_rv_bl, e_rv_non, e_rv_lstD, e_rv_lstR, e_rv_lstS, e_rv_dicD, e_rv_dicR, e_rv_dicS, e_bin, e_bin1, e_one, e_tOf, e_toB, e_tNot, e_tNot1, e_tAnd, e_tOr, e_tAnd_t, e_tAnd_f, e_tOr_t, e_tOr_f, e_and, e_or, e_and_t, e_and_f, e_or_t, e_or_f, e_not, e_not1, e_neg, e_neg1, e_ife, e_ife_t, e_ife_f, e_aNil, e_aCons, e_aCons1, e_aCons2, e_tup, e_lst, e_tup1, e_lst1, e_src0, e_srcS, e_mv0, e_mvS, e_mvN, e_mvC, e_mvC0, e_add_i, e_add_s, e_add_l, e_sub, e_mod, e_fdv, e_mul, e_mul_s, e_pow18, e_lt, e_le, e_gt, e_ge, e_eq, e_ne, e_eq1, e_ne1, eqF_s, eqF_i, eqF_b, eqF_ln, eqF_rn, e_in_s, e_in_l, e_in_r, e_in_t, e_in_d, e_in1, e_rsB_f, e_rsB_t, e_pick_s, e_pick_i, e_pick_b, e_pick_l, e_pick_d, e_subs_l, e_subs_r, e_subs_t, e_subs_s, e_subs_d, e_subs1, e_subsS, e_oNone, e_oSome, e_oSome1, e_sl, e_sl1, e_sl2, e_sl_s, e_sl_l, e_sl_r, e_newL, e_newN, e_len_l, e_len_r, e_len_t, e_len_d, e_len_s, e_sum, e_all, e_any, e_m1, e_m11, e_startsw, e_strip, e_lstrip, e_split, e_join, e_iOf, e_it_l, e_it_r, e_it_t, e_it_s, e_range1, e_rg1, e_for, e_for1, e_comp, e_comp1, e_tTrue, e_step, e_step_t, e_step_f, e_step2, e_bind1, e_call, e_call1, e_call_s, e_call_i, e_call_b, e_call_n, e_call_l, e_call_d, e_isi_s, e_cut_hi, e_cut_lo, e_cut_mid, e_cut_last, e_cut_init, e_rv_rol, e_par, e_par2, e_par3, e_wh1_t, e_wh1_f, e_wh2_nx, e_wh2_ct, e_wh2_bk, e_wh2_rt, List.length_cons, List.length_map, List.length_nil, List.map_cons, List.map_nil, List.replicate_succ, List.replicate_zero, Nat.reduceSub, Nat.reduceAdd, Nat.reduceLT, Nat.reduceLeDiff, Nat.reduceEqDiff, List.set_cons_zero, List.set_cons_succ, List.cons_append, List.nil_append, List.append_nil, decide_true, decide_false, Bool.not_true, Bool.not_false, reduceCtorEq, eq_self, Nat.zero_add, Nat.add_zero, Nat.zero_lt_succ, Nat.lt_add_left_iff_pos, Nat.succ_pos, h1, numL, if_true]
  · have h2 : cMul 977 b = true := cMul_of (bits_lit (n := 10) (by decide)) hb (by omega)
    have b1 : Builtin.Int.intBits (977 * b) ≤ 10 + 2000000 := PyProof.Rows.bits_mul (bits_lit (by decide)) hb
    have b2 : Builtin.Int.intBits (a + 977 * b) ≤ 2000011 := Nat.le_trans (PyProof.Rows.bits_add ha b1) (by omega)
    have h3 : cMul (a + 977 * b) 48271 = true := cMul_of b2 (bits_lit (n := 16) (by decide)) (by omega)
    have b3 : Builtin.Int.intBits (((a + 977 * b) * 48271 + c) % 2147483647) ≤ 40 := by
      refine bits_lit ?_
      have h5 : 0 ≤ ((a + 977 * b) * 48271 + c) % 2147483647 := Int.emod_nonneg _ (by decide)
      have h6 : ((a + 977 * b) * 48271 + c) % 2147483647 < 2147483647 := Int.emod_lt_of_pos _ (by omega)
      have : (2 : Nat) ^ 40 = 1099511627776 := by decide
      omega
    generalize hm : ((a + 977 * b) * 48271 + c) % 2147483647 = m at b3
    have h4 : cMul 31 b = true := cMul_of (bits_lit (n := 5) (by decide)) hb (by omega)
    have b4 : Builtin.Int.intBits (31 * b) ≤ 5 + 2000000 := PyProof.Rows.bits_mul (bits_lit (by decide)) hb
    have b5 : Builtin.Int.intBits (m + 31 * b) ≤ 2000006 := Nat.le_trans (PyProof.Rows.bits_add b3 b4) (by omega)
    have b6 : Builtin.Int.intBits (m + 31 * b + 7) ≤ 2000007 := Nat.le_trans (PyProof.Rows.bits_add b5 (bits_lit (n := 3) (by decide))) (by omega)
    have h5 : cMul m (m + 31 * b + 7) = true := cMul_of b3 b6 (by omega)
    have b7 := PyProof.Rows.bits_mul b3 b6
    have b8 : Builtin.Int.intBits (m + a) ≤ 2000001 := Nat.le_trans (PyProof.Rows.bits_add b3 ha) (by omega)
    have b9 : Builtin.Int.intBits (m + a + 5) ≤ 2000002 := Nat.le_trans (PyProof.Rows.bits_add b8 (bits_lit (n := 3) (by decide))) (by omega)
    have h6 : cMul (m * (m + 31 * b + 7)) (m + a + 5) = true := cMul_of b7 b9 (by omega)
    have b10 := PyProof.Rows.bits_mul b7 b9
    have b11 : Builtin.Int.intBits (m * (m + 31 * b + 7) * (m + a + 5) + 48271) ≤ 4000050 := Nat.le_trans (PyProof.Rows.bits_add b10 (bits_lit (n := 16) (by decide))) (by omega)
    have h7 : cMul (m * (m + 31 * b + 7) * (m + a + 5)) (m * (m + 31 * b + 7) * (m + a + 5) + 48271) = true := cMul_of b10 b11 (by omega)
    have e0 : (0 : Int) < 2147483647 := by decide
    have e1 : (0 : Int) < 1009 := by decide
    have e2 : (1009 : Int) < 1073741824 := by decide
    have e3 : numL a b c = m * (m + 31 * b + 7) * (m + a + 5) * (m * (m + 31 * b + 7) * (m + a + 5) + 48271) / 1009 := by
      unfold numL
      rw [if_neg h1, ← hm]
    rw [e3]
    simp only [e_bok, e_bexc, fin_rt, fin_nx, fin_exc, run1, run2, run3, run4, e_seq, e_seq_nx, e_seq_rt, e_seq_bk, e_seq_ct, e_nil, e_pass, e_brk, e_cnt, e_retN, e_raise, e_drop, e_drop1, e_ret, take_flat, e_ret_deep, e_ret_one, e_ret_none, e_if, e_if_t, e_if_f, e_set, e_set_deep, e_set_none, e_down_nil, e_wipe_nil, e_wipe, e_c, e_slot0, e_slotS, e_var, e_var1, e_rv_int, e_rv_str, e_rv_bl, e_rv_non, e_rv_lstD, e_rv_lstR, e_rv_lstS, e_rv_dicD, e_rv_dicR, e_rv_dicS, e_bin, e_bin1, e_one, e_tOf, e_toB, e_tNot, e_tNot1, e_tAnd, e_tOr, e_tAnd_t, e_tAnd_f, e_tOr_t, e_tOr_f, e_and, e_or, e_and_t, e_and_f, e_or_t, e_or_f, e_not, e_not1, e_neg, e_neg1, e_ife, e_ife_t, e_ife_f, e_aNil, e_aCons, e_aCons1, e_aCons2, e_tup, e_lst, e_tup1, e_lst1, e_src0, e_srcS, e_mv0, e_mvS, e_mvN, e_mvC, e_mvC0, e_add_i, e_add_s, e_add_l, e_sub, e_mod, e_fdv, e_mul, e_mul_s, e_pow18, e_lt, e_le, e_gt, e_ge, e_eq, e_ne, e_eq1, e_ne1, eqF_s, eqF_i, eqF_b, eqF_ln, eqF_rn, e_in_s, e_in_l, e_in_r, e_in_t, e_in_d, e_in1, e_rsB_f, e_rsB_t, e_pick_s, e_pick_i, e_pick_b, e_pick_l, e_pick_d, e_subs_l, e_subs_r, e_subs_t, e_subs_s, e_subs_d, e_subs1, e_subsS, e_oNone, e_oSome, e_oSome1, e_sl, e_sl1, e_sl2, e_sl_s, e_sl_l, e_sl_r, e_newL, e_newN, e_len_l, e_len_r, e_len_t, e_len_d, e_len_s, e_sum, e_all, e_any, e_m1, e_m11, e_startsw, e_strip, e_lstrip, e_split, e_join, e_iOf, e_it_l, e_it_r, e_it_t, e_it_s, e_range1, e_rg1, e_for, e_for1, e_comp, e_comp1, e_tTrue, e_step, e_step_t, e_step_f, e_step2, e_bind1, e_call, e_call1, e_call_s, e_call_i, e_call_b, e_call_n, e_call_l, e_call_d, e_isi_s, e_cut_hi, e_cut_lo, e_cut_mid, e_cut_last, e_cut_init, e_rv_rol, e_par, e_par2, e_par3, e_wh1_t, e_wh1_f, e_wh2_nx, e_wh2_ct, e_wh2_bk, e_wh2_rt, List.length_cons, List.length_map, List.length_nil, List.map_cons, List.map_nil, List.replicate_succ, List.replicate_zero, Nat.reduceSub, Nat.reduceAdd, Nat.reduceLT, Nat.reduceLeDiff, Nat.reduceEqDiff, List.set_cons_zero, List.set_cons_succ, List.cons_append, List.nil_append, List.append_nil, decide_true, decide_false, Bool.not_true, Bool.not_false, reduceCtorEq, eq_self, Nat.zero_add, Nat.add_zero, Nat.zero_lt_succ, Nat.lt_add_left_iff_pos, Nat.succ_pos, h1, h2, h3, hm, h4, h5, h6, h7, e0, e1, e2]
/-- a number of few bits -/
theorem bits_small {z : Int} (h : z.natAbs < 1000000) : Builtin.Int.intBits z ≤ 2000000 := Nat.le_trans (bits_lit (n := 20) (by
  have : (2 : Nat) ^ 20 = 1048576 := by decide
  omega)) (by omega)
theorem bits_sum : ∀ {ns : List Int} {k : Nat}, (∀ z ∈ ns, Builtin.Int.intBits z ≤ 1048576) → ns.length ≤ k → Builtin.Int.intBits ns.sum ≤ 1048576 + k
  | [], k, _, _ => by
    have : Builtin.Int.intBits ([] : List Int).sum = 0 := by decide
    rw [this]
    exact Nat.zero_le _
  | z :: ns, 0, _, h => by simp at h
  | z :: ns, k + 1, hz, h => by
    have ih := bits_sum (ns := ns) (k := k) (fun y hy => hz y (List.mem_cons_of_mem _ hy)) (by simpa using h)
    rw [List.sum_cons]
    refine Nat.le_trans (PyProof.Rows.bits_add (hz z List.mem_cons_self) ih) ?_
    omega
end PV

/-! titles made bare -/
namespace PV
open PySem PySem.Spec L2
/-! ### signs -/
def alph : Tx := [97, 98, 99, 100, 101, 102, 103, 104, 105, 106, 107, 108, 109, 110, 111, 112, 113, 114, 115, 116, 117, 118, 119, 120, 121, 122]
def okS (c : Nat) : Bool := decide (c ∈ alph) || (decide (c = 32) || decide (c = 58))
def okT (x : Tx) : Prop := x.all okS = true
theorem alphE : alph = [97, 98, 99, 100, 101, 102, 103, 104, 105, 106, 107, 108, 109, 110, 111, 112, 113, 114, 115, 116, 117, 118, 119, 120, 121, 122] := rfl
theorem isTitleE {x : Tx} (h : x.length ≤ 1000000) : c_is_title [.str x] = .ok (.bl (decide (x.length ≤ 12) && x.all okS), true) := by
  unfold c_is_title g_is_title y_is_title_1
  have hs : decide ("str" = "str") = true := by decide
  by_cases h1 : (12 : Int) < (x.length : Int)
  · have h2 : decide (x.length ≤ 12) = false := decide_eq_false (by omega)
    simp only [e_bok, e_bexc, fin_rt, fin_nx, fin_exc, run1, run2, run3, run4, e_seq, e_seq_nx, e_seq_rt, e_seq_bk, e_seq_ct, e_nil, e_pass, e_brk, e_cnt, e_retN, e_raise, e_drop, e_drop1, e_ret, take_flat, e_ret_deep, e_ret_one, e_ret_none, e_if, e_if_t, e_if_f, e_set, e_set_deep, e_set_none, e_down_nil, e_wipe_nil, e_wipe, e_c, e_slot0, e_slotS, e_var, e_var1, e_rv_int, e_rv_str, e_rv_bl, e_rv_non, e_rv_lstD, e_rv_lstR, e_rv_lstS, e_rv_dicD, e_rv_dicR, e_rv_dicS, e_bin, e_bin1, e_one, e_tOf, e_toB, e_tNot, e_tNot1, e_tAnd, e_tOr, e_tAnd_t, e_tAnd_f, e_tOr_t, e_tOr_f, e_and, e_or, e_and_t, e_and_f, e_or_t, e_or_f, e_not, e_not1, e_neg, e_neg1, e_ife, e_ife_t, e_ife_f, e_aNil, e_aCons, e_aCons1, e_aCons2, e_tup, e_lst, e_tup1, e_lst1, e_src0, e_srcS, e_mv0, e_mvS, e_mvN, e_mvC, e_mvC0, e_add_i, e_add_s, e_add_l, e_sub, e_mod, e_fdv, e_mul, e_mul_s, e_pow18, e_lt, e_le, e_gt, e_ge, e_eq, e_ne, e_eq1, e_ne1, eqF_s, eqF_i, eqF_b, eqF_ln, eqF_rn, e_in_s, e_in_l, e_in_r, e_in_t, e_in_d, e_in1, e_rsB_f, e_rsB_t, e_pick_s, e_pick_i, e_pick_b, e_pick_l, e_pick_d, e_subs_l, e_subs_r, e_subs_t, e_subs_s, e_subs_d, e_subs1, e_subsS, e_oNone, e_oSome, e_oSome1, e_sl, e_sl1, e_sl2, e_sl_s, e_sl_l, e_sl_r, e_newL, e_newN, e_len_l, e_len_r, e_len_t, e_len_d, e_len_s, e_sum, e_all, e_any, e_m1, e_m11, e_startsw, e_strip, e_lstrip, e_split, e_join, e_iOf, e_it_l, e_it_r, e_it_t, e_it_s, e_range1, e_rg1, e_for, e_for1, e_comp, e_comp1, e_tTrue, e_step, e_step_t, e_step_f, e_step2, e_bind1, e_call, e_call1, e_call_s, e_call_i, e_call_b, e_call_n, e_call_l, e_call_d, e_isi_s, e_cut_hi, e_cut_lo, e_cut_mid, e_cut_last, e_cut_init, e_rv_rol, e_par, e_par2, e_par3, e_wh1_t, e_wh1_f, e_wh2_nx, e_wh2_ct, e_wh2_bk, e_wh2_rt, List.length_cons, List.length_map, List.length_nil, List.map_cons, List.map_nil, List.replicate_succ, List.replicate_zero, Nat.reduceSub, Nat.reduceAdd, Nat.reduceLT, Nat.reduceLeDiff, Nat.reduceEqDiff, List.set_cons_zero, List.set_cons_succ, List.cons_append, List.nil_append, List.append_nil, decide_true, decide_false, Bool.not_true, Bool.not_false, reduceCtorEq, eq_self, Nat.zero_add, Nat.add_zero, Nat.zero_lt_succ, Nat.lt_add_left_iff_pos, Nat.succ_pos, hs, h, h1, h2, Bool.false_and]
  · have h2 : decide (x.length ≤ 12) = true := decide_eq_true (by omega)
    have hc : compGo (stepC (.one 1) [some (.str x, .shr), none] tTrue (fOr (fBin (gIn false) (fVar 1) (fC (.str [97, 98, 99, 100, 101, 102, 103, 104, 105, 106, 107, 108, 109, 110, 111, 112, 113, 114, 115, 116, 117, 118, 119, 120, 121, 122]))) (fBin (gIn false) (fVar 1) (fTup (aCons (fC (.str [32])) (aCons (fC (.str [58])) aNil)))))) (x.map fun c => Dat.str [c]) = .ok (x.map fun c => (⟨.bl (okS c), false, [], some []⟩ : Rs)) := by
      refine compGo_map fun c _ => ?_
      have e1 : anyEq (.str [c]) [.str [32], .str [58]] = .ok (decide (c = 32) || decide (c = 58)) := by
        have := anyEq_s (x := [c]) (ys := [[32], [58]])
        simp only [List.map_cons, List.map_nil] at this
        rw [this]
        simp
      rw [e_step (e_bind1 (by simp))]
      simp only [e_bok, e_bexc, fin_rt, fin_nx, fin_exc, run1, run2, run3, run4, e_seq, e_seq_nx, e_seq_rt, e_seq_bk, e_seq_ct, e_nil, e_pass, e_brk, e_cnt, e_retN, e_raise, e_drop, e_drop1, e_ret, take_flat, e_ret_deep, e_ret_one, e_ret_none, e_if, e_if_t, e_if_f, e_set, e_set_deep, e_set_none, e_down_nil, e_wipe_nil, e_wipe, e_c, e_slot0, e_slotS, e_var, e_var1, e_rv_int, e_rv_str, e_rv_bl, e_rv_non, e_rv_lstD, e_rv_lstR, e_rv_lstS, e_rv_dicD, e_rv_dicR, e_rv_dicS, e_bin, e_bin1, e_one, e_tOf, e_toB, e_tNot, e_tNot1, e_tAnd, e_tOr, e_tAnd_t, e_tAnd_f, e_tOr_t, e_tOr_f, e_and, e_or, e_and_t, e_and_f, e_or_t, e_or_f, e_not, e_not1, e_neg, e_neg1, e_ife, e_ife_t, e_ife_f, e_aNil, e_aCons, e_aCons1, e_aCons2, e_tup, e_lst, e_tup1, e_lst1, e_src0, e_srcS, e_mv0, e_mvS, e_mvN, e_mvC, e_mvC0, e_add_i, e_add_s, e_add_l, e_sub, e_mod, e_fdv, e_mul, e_mul_s, e_pow18, e_lt, e_le, e_gt, e_ge, e_eq, e_ne, e_eq1, e_ne1, eqF_s, eqF_i, eqF_b, eqF_ln, eqF_rn, e_in_s, e_in_l, e_in_r, e_in_t, e_in_d, e_in1, e_rsB_f, e_rsB_t, e_pick_s, e_pick_i, e_pick_b, e_pick_l, e_pick_d, e_subs_l, e_subs_r, e_subs_t, e_subs_s, e_subs_d, e_subs1, e_subsS, e_oNone, e_oSome, e_oSome1, e_sl, e_sl1, e_sl2, e_sl_s, e_sl_l, e_sl_r, e_newL, e_newN, e_len_l, e_len_r, e_len_t, e_len_d, e_len_s, e_sum, e_all, e_any, e_m1, e_m11, e_startsw, e_strip, e_lstrip, e_split, e_join, e_iOf, e_it_l, e_it_r, e_it_t, e_it_s, e_range1, e_rg1, e_for, e_for1, e_comp, e_comp1, e_tTrue, e_step, e_step_t, e_step_f, e_step2, e_bind1, e_call, e_call1, e_call_s, e_call_i, e_call_b, e_call_n, e_call_l, e_call_d, e_isi_s, e_cut_hi, e_cut_lo, e_cut_mid, e_cut_last, e_cut_init, e_rv_rol, e_par, e_par2, e_par3, e_wh1_t, e_wh1_f, e_wh2_nx, e_wh2_ct, e_wh2_bk, e_wh2_rt, List.length_cons, List.length_map, List.length_nil, List.map_cons, List.map_nil, List.replicate_succ, List.replicate_zero, Nat.reduceSub, Nat.reduceAdd, Nat.reduceLT, Nat.reduceLeDiff, Nat.reduceEqDiff, List.set_cons_zero, List.set_cons_succ, List.cons_append, List.nil_append, List.append_nil, decide_true, decide_false, Bool.not_true, Bool.not_false, reduceCtorEq, eq_self, Nat.zero_add, Nat.add_zero, Nat.zero_lt_succ, Nat.lt_add_left_iff_pos, Nat.succ_pos, ← alphE]
      have e2 : ∀ E : Sto, slot E 1 = some (.str [c], .shr) → fBin (gIn false) (fVar 1) (fTup (aCons (fC (.str [32])) (aCons (fC (.str [58])) aNil))) E = .ok ⟨.bl (decide (c = 32) || decide (c = 58)), false, [], some []⟩ := by
        intro E hE
        simp only [e_bok, e_bexc, fin_rt, fin_nx, fin_exc, run1, run2, run3, run4, e_seq, e_seq_nx, e_seq_rt, e_seq_bk, e_seq_ct, e_nil, e_pass, e_brk, e_cnt, e_retN, e_raise, e_drop, e_drop1, e_ret, take_flat, e_ret_deep, e_ret_one, e_ret_none, e_if, e_if_t, e_if_f, e_set, e_set_deep, e_set_none, e_down_nil, e_wipe_nil, e_wipe, e_c, e_slot0, e_slotS, e_var, e_var1, e_rv_int, e_rv_str, e_rv_bl, e_rv_non, e_rv_lstD, e_rv_lstR, e_rv_lstS, e_rv_dicD, e_rv_dicR, e_rv_dicS, e_bin, e_bin1, e_one, e_tOf, e_toB, e_tNot, e_tNot1, e_tAnd, e_tOr, e_tAnd_t, e_tAnd_f, e_tOr_t, e_tOr_f, e_and, e_or, e_and_t, e_and_f, e_or_t, e_or_f, e_not, e_not1, e_neg, e_neg1, e_ife, e_ife_t, e_ife_f, e_aNil, e_aCons, e_aCons1, e_aCons2, e_tup, e_lst, e_tup1, e_lst1, e_src0, e_srcS, e_mv0, e_mvS, e_mvN, e_mvC, e_mvC0, e_add_i, e_add_s, e_add_l, e_sub, e_mod, e_fdv, e_mul, e_mul_s, e_pow18, e_lt, e_le, e_gt, e_ge, e_eq, e_ne, e_eq1, e_ne1, eqF_s, eqF_i, eqF_b, eqF_ln, eqF_rn, e_in_s, e_in_l, e_in_r, e_in_t, e_in_d, e_in1, e_rsB_f, e_rsB_t, e_pick_s, e_pick_i, e_pick_b, e_pick_l, e_pick_d, e_subs_l, e_subs_r, e_subs_t, e_subs_s, e_subs_d, e_subs1, e_subsS, e_oNone, e_oSome, e_oSome1, e_sl, e_sl1, e_sl2, e_sl_s, e_sl_l, e_sl_r, e_newL, e_newN, e_len_l, e_len_r, e_len_t, e_len_d, e_len_s, e_sum, e_all, e_any, e_m1, e_m11, e_startsw, e_strip, e_lstrip, e_split, e_join, e_iOf, e_it_l, e_it_r, e_it_t, e_it_s, e_range1, e_rg1, e_for, e_for1, e_comp, e_comp1, e_tTrue, e_step, e_step_t, e_step_f, e_step2, e_bind1, e_call, e_call1, e_call_s, e_call_i, e_call_b, e_call_n, e_call_l, e_call_d, e_isi_s, e_cut_hi, e_cut_lo, e_cut_mid, e_cut_last, e_cut_init, e_rv_rol, e_par, e_par2, e_par3, e_wh1_t, e_wh1_f, e_wh2_nx, e_wh2_ct, e_wh2_bk, e_wh2_rt, List.length_cons, List.length_map, List.length_nil, List.map_cons, List.map_nil, List.replicate_succ, List.replicate_zero, Nat.reduceSub, Nat.reduceAdd, Nat.reduceLT, Nat.reduceLeDiff, Nat.reduceEqDiff, List.set_cons_zero, List.set_cons_succ, List.cons_append, List.nil_append, List.append_nil, decide_true, decide_false, Bool.not_true, Bool.not_false, reduceCtorEq, eq_self, Nat.zero_add, Nat.add_zero, Nat.zero_lt_succ, Nat.lt_add_left_iff_pos, Nat.succ_pos, hE, (by decide : (2 : Nat) ≤ 1000000), e1]
      rw [e_or_ok (e2 _ rfl)]
      simp only [e_bok, e_bexc, fin_rt, fin_nx, fin_exc, run1, run2, run3, run4, e_seq, e_seq_nx, e_seq_rt, e_seq_bk, e_seq_ct, e_nil, e_pass, e_brk, e_cnt, e_retN, e_raise, e_drop, e_drop1, e_ret, take_flat, e_ret_deep, e_ret_one, e_ret_none, e_if, e_if_t, e_if_f, e_set, e_set_deep, e_set_none, e_down_nil, e_wipe_nil, e_wipe, e_c, e_slot0, e_slotS, e_var, e_var1, e_rv_int, e_rv_str, e_rv_bl, e_rv_non, e_rv_lstD, e_rv_lstR, e_rv_lstS, e_rv_dicD, e_rv_dicR, e_rv_dicS, e_bin, e_bin1, e_one, e_tOf, e_toB, e_tNot, e_tNot1, e_tAnd, e_tOr, e_tAnd_t, e_tAnd_f, e_tOr_t, e_tOr_f, e_and, e_or, e_and_t, e_and_f, e_or_t, e_or_f, e_not, e_not1, e_neg, e_neg1, e_ife, e_ife_t, e_ife_f, e_aNil, e_aCons, e_aCons1, e_aCons2, e_tup, e_lst, e_tup1, e_lst1, e_src0, e_srcS, e_mv0, e_mvS, e_mvN, e_mvC, e_mvC0, e_add_i, e_add_s, e_add_l, e_sub, e_mod, e_fdv, e_mul, e_mul_s, e_pow18, e_lt, e_le, e_gt, e_ge, e_eq, e_ne, e_eq1, e_ne1, eqF_s, eqF_i, eqF_b, eqF_ln, eqF_rn, e_in_s, e_in_l, e_in_r, e_in_t, e_in_d, e_in1, e_rsB_f, e_rsB_t, e_pick_s, e_pick_i, e_pick_b, e_pick_l, e_pick_d, e_subs_l, e_subs_r, e_subs_t, e_subs_s, e_subs_d, e_subs1, e_subsS, e_oNone, e_oSome, e_oSome1, e_sl, e_sl1, e_sl2, e_sl_s, e_sl_l, e_sl_r, e_newL, e_newN, e_len_l, e_len_r, e_len_t, e_len_d, e_len_s, e_sum, e_all, e_any, e_m1, e_m11, e_startsw, e_strip, e_lstrip, e_split, e_join, e_iOf, e_it_l, e_it_r, e_it_t, e_it_s, e_range1, e_rg1, e_for, e_for1, e_comp, e_comp1, e_tTrue, e_step, e_step_t, e_step_f, e_step2, e_bind1, e_call, e_call1, e_call_s, e_call_i, e_call_b, e_call_n, e_call_l, e_call_d, e_isi_s, e_cut_hi, e_cut_lo, e_cut_mid, e_cut_last, e_cut_init, e_rv_rol, e_par, e_par2, e_par3, e_wh1_t, e_wh1_f, e_wh2_nx, e_wh2_ct, e_wh2_bk, e_wh2_rt, List.length_cons, List.length_map, List.length_nil, List.map_cons, List.map_nil, List.replicate_succ, List.replicate_zero, Nat.reduceSub, Nat.reduceAdd, Nat.reduceLT, Nat.reduceLeDiff, Nat.reduceEqDiff, List.set_cons_zero, List.set_cons_succ, List.cons_append, List.nil_append, List.append_nil, decide_true, decide_false, Bool.not_true, Bool.not_false, reduceCtorEq, eq_self, Nat.zero_add, Nat.add_zero, Nat.zero_lt_succ, Nat.lt_add_left_iff_pos, Nat.succ_pos]
      rfl
    have hk := e_comp1 (l := []) (own := [1]) (E := [some (.str x, .shr), none]) hc (by simpa using h)
    simp only [e_bok, e_bexc, fin_rt, fin_nx, fin_exc, run1, run2, run3, run4, e_seq, e_seq_nx, e_seq_rt, e_seq_bk, e_seq_ct, e_nil, e_pass, e_brk, e_cnt, e_retN, e_raise, e_drop, e_drop1, e_ret, take_flat, e_ret_deep, e_ret_one, e_ret_none, e_if, e_if_t, e_if_f, e_set, e_set_deep, e_set_none, e_down_nil, e_wipe_nil, e_wipe, e_c, e_slot0, e_slotS, e_var, e_var1, e_rv_int, e_rv_str, e_rv_bl, e_rv_non, e_rv_lstD, e_rv_lstR, e_rv_lstS, e_rv_dicD, e_rv_dicR, e_rv_dicS, e_bin, e_bin1, e_one, e_tOf, e_toB, e_tNot, e_tNot1, e_tAnd, e_tOr, e_tAnd_t, e_tAnd_f, e_tOr_t, e_tOr_f, e_and, e_or, e_and_t, e_and_f, e_or_t, e_or_f, e_not, e_not1, e_neg, e_neg1, e_ife, e_ife_t, e_ife_f, e_aNil, e_aCons, e_aCons1, e_aCons2, e_tup, e_lst, e_tup1, e_lst1, e_src0, e_srcS, e_mv0, e_mvS, e_mvN, e_mvC, e_mvC0, e_add_i, e_add_s, e_add_l, e_sub, e_mod, e_fdv, e_mul, e_mul_s, e_pow18, e_lt, e_le, e_gt, e_ge, e_eq, e_ne, e_eq1, e_ne1, eqF_s, eqF_i, eqF_b, eqF_ln, eqF_rn, e_in_s, e_in_l, e_in_r, e_in_t, e_in_d, e_in1, e_rsB_f, e_rsB_t, e_pick_s, e_pick_i, e_pick_b, e_pick_l, e_pick_d, e_subs_l, e_subs_r, e_subs_t, e_subs_s, e_subs_d, e_subs1, e_subsS, e_oNone, e_oSome, e_oSome1, e_sl, e_sl1, e_sl2, e_sl_s, e_sl_l, e_sl_r, e_newL, e_newN, e_len_l, e_len_r, e_len_t, e_len_d, e_len_s, e_sum, e_all, e_any, e_m1, e_m11, e_startsw, e_strip, e_lstrip, e_split, e_join, e_iOf, e_it_l, e_it_r, e_it_t, e_it_s, e_range1, e_rg1, e_for, e_for1, e_comp, e_comp1, e_tTrue, e_step, e_step_t, e_step_f, e_step2, e_bind1, e_call, e_call1, e_call_s, e_call_i, e_call_b, e_call_n, e_call_l, e_call_d, e_isi_s, e_cut_hi, e_cut_lo, e_cut_mid, e_cut_last, e_cut_init, e_rv_rol, e_par, e_par2, e_par3, e_wh1_t, e_wh1_f, e_wh2_nx, e_wh2_ct, e_wh2_bk, e_wh2_rt, List.length_cons, List.length_map, List.length_nil, List.map_cons, List.map_nil, List.replicate_succ, List.replicate_zero, Nat.reduceSub, Nat.reduceAdd, Nat.reduceLT, Nat.reduceLeDiff, Nat.reduceEqDiff, List.set_cons_zero, List.set_cons_succ, List.cons_append, List.nil_append, List.append_nil, decide_true, decide_false, Bool.not_true, Bool.not_false, reduceCtorEq, eq_self, Nat.zero_add, Nat.add_zero, Nat.zero_lt_succ, Nat.lt_add_left_iff_pos, Nat.succ_pos, hs, h, h1, h2, Bool.true_and, hk, rComp_F, gAll_F]
/-! ### blanks -/
def nr : Bool → Bool → Tx → Tx
  | _, _, [] => []
  | s, p, c :: r => if c = 32 then nr s true r else if (s && p) = true then 32 :: c :: nr true false r else c :: nr true false r
theorem nr_sp (s p : Bool) (r : Tx) : nr s p (32 :: r) = nr s true r := by
  simp [nr]
theorem nr_c (p : Bool) {c : Nat} (r : Tx) (h : c ≠ 32) : nr false p (c :: r) = c :: nr true false r := by
  simp [nr, h]
theorem nr_tf {c : Nat} (r : Tx) (h : c ≠ 32) : nr true false (c :: r) = c :: nr true false r := by
  simp [nr, h]
theorem nr_tt {c : Nat} (r : Tx) (h : c ≠ 32) : nr true true (c :: r) = 32 :: c :: nr true false r := by
  simp [nr, h]
theorem nr_f : ∀ (p : Bool) (r : Tx), nr false p r = nr false false r
  | _, [] => by simp [nr]
  | p, c :: r => by
    by_cases h : c = 32
    · subst h
      rw [nr_sp, nr_sp]
    · rw [nr_c _ _ h, nr_c _ _ h]
theorem nr_ttE : ∀ r : Tx, nr true true r = if nr false false r = [] then [] else 32 :: nr false false r
  | [] => by simp [nr]
  | c :: r => by
    by_cases h : c = 32
    · subst h
      rw [nr_sp, nr_sp, nr_f, nr_ttE r]
    · rw [nr_tt _ h, nr_c _ _ h, if_neg (by simp)]
theorem join_cons (a : Tx) (ws : List Tx) : joinT [32] (a :: ws) = a ++ (if ws = [] then [] else 32 :: joinT [32] ws) := by
  cases ws with
  | nil => simp [joinT, TL.joinL]
  | cons b ws => simp [joinT, TL.joinL]
def neB (w : Tx) : Bool := !decide (w = [])
theorem join_nil {ws : List Tx} (h : ∀ w ∈ ws, w ≠ []) : joinT [32] ws = [] ↔ ws = [] := by
  cases ws with
  | nil => simp [joinT, TL.joinL]
  | cons a ws =>
    rw [join_cons]
    simp [h a (by simp)]
theorem split_nr : ∀ (r acc : Tx), joinT [32] ((TL.spl [32] 0 acc r).filter neB) = if acc = [] then nr false false r else acc ++ nr true false r
  | [], acc => by
    by_cases h : acc = []
    · subst h
      simp [TL.spl, neB, nr, joinT, TL.joinL]
    · simp [TL.spl, neB, nr, joinT, TL.joinL, h]
  | c :: r, acc => by
    by_cases hc : c = 32
    · subst hc
      have e : TL.spl [32] 0 acc (32 :: r) = acc :: TL.spl [32] 0 [] r := by simp [TL.spl, TL.pre]
      have ih := split_nr r []
      rw [if_pos rfl] at ih
      have hn := join_nil (ws := (TL.spl [32] 0 [] r).filter neB) fun w hw => by
        have := (List.mem_filter.mp hw).2
        simpa [neB] using this
      rw [ih] at hn
      rw [e, nr_sp, nr_sp, nr_f]
      by_cases h : acc = []
      · subst h
        rw [if_pos rfl, List.filter_cons_of_neg (by simp [neB])]
        exact ih
      · rw [if_neg h, List.filter_cons_of_pos (by simp [neB, h]), join_cons, ih, nr_ttE]
        by_cases h2 : nr false false r = []
        · rw [if_pos h2, if_pos (hn.mp h2)]
        · rw [if_neg h2, if_neg (fun z => h2 (hn.mpr z))]
    · have e : TL.spl [32] 0 acc (c :: r) = TL.spl [32] 0 (acc ++ [c]) r := by simp [TL.spl, TL.pre, hc]
      rw [e, split_nr r (acc ++ [c]), if_neg (by simp), nr_c _ _ hc, nr_tf _ hc]
      by_cases h : acc = []
      · subst h
        rfl
      · rw [if_neg h]
        simp
/-- a text without a blank too much -/
def Nm (x : Tx) : Prop := nr false false x = x
theorem nr_idem : ∀ r : Tx, nr false false (nr false false r) = nr false false r ∧ nr true false (nr true false r) = nr true false r ∧ nr true false (nr true true r) = nr true true r
  | [] => by simp [nr]
  | c :: r => by
    obtain ⟨h1, h2, h3⟩ := nr_idem r
    by_cases h : c = 32
    · subst h
      rw [nr_sp, nr_sp, nr_sp, nr_f true r]
      exact ⟨h1, h3, h3⟩
    · rw [nr_c _ _ h, nr_c _ _ h, nr_tf _ h, nr_tf _ h, nr_tt _ h, nr_sp, nr_tt _ h, h2]
      exact ⟨rfl, rfl, rfl⟩
theorem nr_nm (x : Tx) : Nm (nr false false x) := (nr_idem x).1
theorem nr_len : ∀ (s p : Bool) (r : Tx), (nr s p r).length ≤ r.length + (if (s && p) = true then 1 else 0)
  | _, _, [] => by simp [nr]
  | s, p, c :: r => by
    by_cases h : c = 32
    · subst h
      rw [nr_sp]
      have := nr_len s true r
      cases s <;> cases p <;> simp at this ⊢ <;> omega
    · have := nr_len true false r
      simp at this
      cases s <;> cases p <;> simp [nr, h] <;> omega
theorem nr_last : ∀ (s p : Bool) (r : Tx), (nr s p r).getLast? ≠ some 32
  | _, _, [] => by simp [nr]
  | s, p, c :: r => by
    by_cases h : c = 32
    · subst h
      rw [nr_sp]
      exact nr_last s true r
    · have ih := nr_last true false r
      have key : (c :: nr true false r).getLast? ≠ some 32 := by
        cases e : nr true false r with
        | nil => simpa using h
        | cons a l =>
          rw [List.getLast?_cons_cons, ← e]
          exact ih
      cases s <;> cases p <;> simp only [nr, if_neg h, Bool.and_self, Bool.and_true, Bool.and_false, Bool.false_eq_true, if_false, if_true]
      · exact key
      · exact key
      · exact key
      · rw [List.getLast?_cons_cons]
        exact key
theorem nr_mem : ∀ (s p : Bool) (r : Tx) (c : Nat), c ∈ nr s p r → c ∈ r ∨ c = 32
  | _, _, [], c, h => by simp [nr] at h
  | s, p, a :: r, c, h => by
    by_cases ha : a = 32
    · subst ha
      rw [nr_sp] at h
      exact (nr_mem s true r c h).imp (List.mem_cons_of_mem _) id
    · have ih := nr_mem true false r c
      cases s <;> cases p <;> simp only [nr, if_neg ha, Bool.and_self, Bool.and_true, Bool.and_false, Bool.false_eq_true, if_false, if_true, List.mem_cons] at h
      all_goals
        rcases h with h | h
        · first | exact .inr h | exact .inl (by simp [h])
        · first | exact (ih h).imp (List.mem_cons_of_mem _) id | (rcases h with h | h; exact .inl (by simp [h]); exact (ih h).imp (List.mem_cons_of_mem _) id)
def isB32 : Nat → Bool := fun c => [32].contains c
theorem strip_nm {x : Tx} (h : Nm x) : stripL isB32 x = x := by
  have hl := nr_last false false x
  rw [h] at hl
  have h1 : x.dropWhile isB32 = x := by
    cases x with
    | nil => rfl
    | cons c r =>
      refine List.dropWhile_cons_of_neg fun z => ?_
      have hc : c = 32 := by simpa [isB32] using z
      subst hc
      unfold Nm at h
      rw [nr_sp, nr_f] at h
      have := nr_len false false r
      rw [h] at this
      simp at this
      omega
  have h2 : x.reverse.dropWhile isB32 = x.reverse := by
    cases e : x.reverse with
    | nil => rfl
    | cons c r =>
      refine List.dropWhile_cons_of_neg fun z => hl ?_
      have hc : c = 32 := by simpa [isB32] using z
      rw [← List.head?_reverse, e, hc]
      rfl
  unfold stripL
  rw [h1, h2, List.reverse_reverse]
/-! ### re: -/
def reT : Tx := [114, 101, 58]
def stp (s : Tx) : Tx := if (s.drop 3).take 1 = [32] then s.drop 4 else s.drop 3
def lp : Nat → Tx → Tx
  | 0, s => s
  | n + 1, s => if s.take 3 = reT then lp n (stp s) else s
theorem re_split {s : Tx} (h : s.take 3 = reT) : ∃ r, s = 114 :: 101 :: 58 :: r := by
  rw [← List.take_append_drop 3 s, h]
  exact ⟨s.drop 3, rfl⟩
theorem stp_ok {s : Tx} (h : Nm s) (hr : s.take 3 = reT) : stripL isB32 (s.drop 3) = stp s ∧ Nm (stp s) ∧ (stp s).length < s.length := by
  obtain ⟨r, rfl⟩ := re_split hr
  unfold Nm at h
  rw [nr_c _ _ (by decide), nr_tf _ (by decide), nr_tf _ (by decide)] at h
  have hm : nr true false r = r := by simpa using h
  cases r with
  | nil => exact ⟨rfl, rfl, by decide⟩
  | cons c r =>
    by_cases hc : c = 32
    · subst hc
      rw [nr_sp] at hm
      cases r with
      | nil => simp [nr] at hm
      | cons b r =>
        have hb : b ≠ 32 := fun z => by
          subst z
          rw [nr_sp] at hm
          have := nr_len true true r
          rw [hm] at this
          simp at this
          omega
        rw [nr_tt _ hb] at hm
        have h3 : nr true false r = r := by simpa using hm
        have h4 : Nm (b :: r) := by
          unfold Nm
          rw [nr_c _ _ hb, h3]
        have e : stp (114 :: 101 :: 58 :: 32 :: b :: r) = b :: r := rfl
        have e2 : stripL isB32 (32 :: b :: r) = stripL isB32 (b :: r) := by
          unfold stripL
          rw [List.dropWhile_cons_of_pos (by decide)]
        rw [e]
        refine ⟨?_, h4, by simp⟩
        show stripL isB32 (32 :: b :: r) = _
        rw [e2, strip_nm h4]
    · rw [nr_tf _ hc] at hm
      have h3 : nr true false r = r := by simpa using hm
      have h4 : Nm (c :: r) := by
        unfold Nm
        rw [nr_c _ _ hc, h3]
      have e : stp (114 :: 101 :: 58 :: c :: r) = c :: r := by
        show (if [c] = [32] then r else c :: r) = _
        rw [if_neg (by simpa using hc)]
      rw [e]
      exact ⟨strip_nm h4, h4, by simp⟩
theorem lp_ok : ∀ (n : Nat) {s : Tx}, Nm s → s.length < n → Nm (lp n s) ∧ (lp n s).take 3 ≠ reT ∧ (lp n s).length ≤ s.length ∧ ∀ c ∈ lp n s, c ∈ s
  | 0, s, _, h => by omega
  | n + 1, s, h, hl => by
    by_cases hr : s.take 3 = reT
    · obtain ⟨_, h2, h3⟩ := stp_ok h hr
      obtain ⟨i1, i2, i3, i4⟩ := lp_ok n h2 (by omega)
      simp only [lp, if_pos hr]
      refine ⟨i1, i2, by omega, fun c hc => ?_⟩
      have := i4 c hc
      unfold stp at this
      split at this
      · exact List.mem_of_mem_drop this
      · exact List.mem_of_mem_drop this
    · simp only [lp, if_neg hr]
      exact ⟨h, hr, Nat.le_refl _, fun _ z => z⟩
theorem lp_id {n : Nat} {s : Tx} (h : s.take 3 ≠ reT) : lp n s = s := by
  cases n with
  | zero => rfl
  | succ n => exact if_neg h
/-- the bare title -/
def bareL (x : Tx) : Tx := lp 1000 (nr false false x)
theorem bareL_ok {x : Tx} (h : x.length < 1000) : Nm (bareL x) ∧ (bareL x).take 3 ≠ reT ∧ (bareL x).length ≤ x.length ∧ ∀ c ∈ bareL x, c ∈ x ∨ c = 32 := by
  have hl := nr_len false false x
  simp at hl
  obtain ⟨h1, h2, h3, h4⟩ := lp_ok 1000 (nr_nm x) (by omega)
  exact ⟨h1, h2, by unfold bareL; omega, fun c hc => nr_mem _ _ _ c (h4 c hc)⟩
theorem bareL_idem {x : Tx} (h : x.length < 1000) : bareL (bareL x) = bareL x := by
  obtain ⟨h1, h2, _⟩ := bareL_ok h
  show lp 1000 (nr false false (bareL x)) = _
  rw [h1, lp_id h2]
theorem splitE (x : Tx) : joinT [32] ((splitL [32] x).filter neB) = nr false false x := by
  have := split_nr x []
  rw [if_pos rfl] at this
  exact this
theorem spl_len : ∀ (r acc : Tx), ((TL.spl [32] 0 acc r : List Tx).map (fun w : Tx => w.length)).sum + (TL.spl [32] 0 acc r : List Tx).length ≤ acc.length + r.length + r.length + 1
  | [], acc => by simp [TL.spl]
  | c :: r, acc => by
    by_cases hc : c = 32
    · subst hc
      have e : TL.spl [32] 0 acc (32 :: r) = acc :: TL.spl [32] 0 [] r := by simp [TL.spl, TL.pre]
      have := spl_len r []
      rw [e]
      simp at this ⊢
      omega
    · have e : TL.spl [32] 0 acc (c :: r) = TL.spl [32] 0 (acc ++ [c]) r := by simp [TL.spl, TL.pre, hc]
      have := spl_len r (acc ++ [c])
      rw [e]
      simp at this ⊢
      omega
theorem filter_len {p : Tx → Bool} : ∀ (ws : List Tx), ((ws.filter p).map (fun w : Tx => w.length)).sum + (ws.filter p).length ≤ (ws.map (fun w : Tx => w.length)).sum + ws.length
  | [] => by simp
  | w :: ws => by
    have := filter_len (p := p) ws
    cases h : p w
    · rw [List.filter_cons_of_neg (by simp [h])]
      simp
      omega
    · rw [List.filter_cons_of_pos h]
      simp
      omega
theorem bareOfE {x : Tx} (h : x.length < 1000) : c_bare_of [.str x] = .ok (.str (bareL x), true) := by
  unfold c_bare_of g_bare_of q_bare_of_1 y_bare_of_1 t_bare_of_1 b_bare_of_1
  have h1 : x.length ≤ 1000000 := by omega
  have hs : ([32] : Tx) ≠ [] ∧ ([32] : Tx).all (· < 256) = true ∧ x.length ≤ 1000000 := ⟨by decide, by decide, h1⟩
  have hc : compGo (stepC (.one 2) [some (.str x, .shr), none, none] (tOf (fBin gNe (fVar 2) (fC (.str [])))) (fVar 2)) ((splitL [32] x).map Dat.str) = .ok (((splitL [32] x).filter neB).map fun w => (⟨.str w, false, [], some []⟩ : Rs)) := by
    refine compGo_of fun w _ => ?_
    rw [e_step (e_bind1 (by simp))]
    simp only [e_bok, e_bexc, fin_rt, fin_nx, fin_exc, run1, run2, run3, run4, e_seq, e_seq_nx, e_seq_rt, e_seq_bk, e_seq_ct, e_nil, e_pass, e_brk, e_cnt, e_retN, e_raise, e_drop, e_drop1, e_ret, take_flat, e_ret_deep, e_ret_one, e_ret_none, e_if, e_if_t, e_if_f, e_set, e_set_deep, e_set_none, e_down_nil, e_wipe_nil, e_wipe, e_c, e_slot0, e_slotS, e_var, e_var1, e_rv_int, e_rv_str, e_rv_bl, e_rv_non, e_rv_lstD, e_rv_lstR, e_rv_lstS, e_rv_dicD, e_rv_dicR, e_rv_dicS, e_bin, e_bin1, e_one, e_tOf, e_toB, e_tNot, e_tNot1, e_tAnd, e_tOr, e_tAnd_t, e_tAnd_f, e_tOr_t, e_tOr_f, e_and, e_or, e_and_t, e_and_f, e_or_t, e_or_f, e_not, e_not1, e_neg, e_neg1, e_ife, e_ife_t, e_ife_f, e_aNil, e_aCons, e_aCons1, e_aCons2, e_tup, e_lst, e_tup1, e_lst1, e_src0, e_srcS, e_mv0, e_mvS, e_mvN, e_mvC, e_mvC0, e_add_i, e_add_s, e_add_l, e_sub, e_mod, e_fdv, e_mul, e_mul_s, e_pow18, e_lt, e_le, e_gt, e_ge, e_eq, e_ne, e_eq1, e_ne1, eqF_s, eqF_i, eqF_b, eqF_ln, eqF_rn, e_in_s, e_in_l, e_in_r, e_in_t, e_in_d, e_in1, e_rsB_f, e_rsB_t, e_pick_s, e_pick_i, e_pick_b, e_pick_l, e_pick_d, e_subs_l, e_subs_r, e_subs_t, e_subs_s, e_subs_d, e_subs1, e_subsS, e_oNone, e_oSome, e_oSome1, e_sl, e_sl1, e_sl2, e_sl_s, e_sl_l, e_sl_r, e_newL, e_newN, e_len_l, e_len_r, e_len_t, e_len_d, e_len_s, e_sum, e_all, e_any, e_m1, e_m11, e_startsw, e_strip, e_lstrip, e_split, e_join, e_iOf, e_it_l, e_it_r, e_it_t, e_it_s, e_range1, e_rg1, e_for, e_for1, e_comp, e_comp1, e_tTrue, e_step, e_step_t, e_step_f, e_step2, e_bind1, e_call, e_call1, e_call_s, e_call_i, e_call_b, e_call_n, e_call_l, e_call_d, e_isi_s, e_cut_hi, e_cut_lo, e_cut_mid, e_cut_last, e_cut_init, e_rv_rol, e_par, e_par2, e_par3, e_wh1_t, e_wh1_f, e_wh2_nx, e_wh2_ct, e_wh2_bk, e_wh2_rt, List.length_cons, List.length_map, List.length_nil, List.map_cons, List.map_nil, List.replicate_succ, List.replicate_zero, Nat.reduceSub, Nat.reduceAdd, Nat.reduceLT, Nat.reduceLeDiff, Nat.reduceEqDiff, List.set_cons_zero, List.set_cons_succ, List.cons_append, List.nil_append, List.append_nil, decide_true, decide_false, Bool.not_true, Bool.not_false, reduceCtorEq, eq_self, Nat.zero_add, Nat.add_zero, Nat.zero_lt_succ, Nat.lt_add_left_iff_pos, Nat.succ_pos]
    have e1 : (!decide (w = [])) = neB w := rfl
    rw [e1]
    cases neB w
    · simp only [e_bok, e_bexc, fin_rt, fin_nx, fin_exc, run1, run2, run3, run4, e_seq, e_seq_nx, e_seq_rt, e_seq_bk, e_seq_ct, e_nil, e_pass, e_brk, e_cnt, e_retN, e_raise, e_drop, e_drop1, e_ret, take_flat, e_ret_deep, e_ret_one, e_ret_none, e_if, e_if_t, e_if_f, e_set, e_set_deep, e_set_none, e_down_nil, e_wipe_nil, e_wipe, e_c, e_slot0, e_slotS, e_var, e_var1, e_rv_int, e_rv_str, e_rv_bl, e_rv_non, e_rv_lstD, e_rv_lstR, e_rv_lstS, e_rv_dicD, e_rv_dicR, e_rv_dicS, e_bin, e_bin1, e_one, e_tOf, e_toB, e_tNot, e_tNot1, e_tAnd, e_tOr, e_tAnd_t, e_tAnd_f, e_tOr_t, e_tOr_f, e_and, e_or, e_and_t, e_and_f, e_or_t, e_or_f, e_not, e_not1, e_neg, e_neg1, e_ife, e_ife_t, e_ife_f, e_aNil, e_aCons, e_aCons1, e_aCons2, e_tup, e_lst, e_tup1, e_lst1, e_src0, e_srcS, e_mv0, e_mvS, e_mvN, e_mvC, e_mvC0, e_add_i, e_add_s, e_add_l, e_sub, e_mod, e_fdv, e_mul, e_mul_s, e_pow18, e_lt, e_le, e_gt, e_ge, e_eq, e_ne, e_eq1, e_ne1, eqF_s, eqF_i, eqF_b, eqF_ln, eqF_rn, e_in_s, e_in_l, e_in_r, e_in_t, e_in_d, e_in1, e_rsB_f, e_rsB_t, e_pick_s, e_pick_i, e_pick_b, e_pick_l, e_pick_d, e_subs_l, e_subs_r, e_subs_t, e_subs_s, e_subs_d, e_subs1, e_subsS, e_oNone, e_oSome, e_oSome1, e_sl, e_sl1, e_sl2, e_sl_s, e_sl_l, e_sl_r, e_newL, e_newN, e_len_l, e_len_r, e_len_t, e_len_d, e_len_s, e_sum, e_all, e_any, e_m1, e_m11, e_startsw, e_strip, e_lstrip, e_split, e_join, e_iOf, e_it_l, e_it_r, e_it_t, e_it_s, e_range1, e_rg1, e_for, e_for1, e_comp, e_comp1, e_tTrue, e_step, e_step_t, e_step_f, e_step2, e_bind1, e_call, e_call1, e_call_s, e_call_i, e_call_b, e_call_n, e_call_l, e_call_d, e_isi_s, e_cut_hi, e_cut_lo, e_cut_mid, e_cut_last, e_cut_init, e_rv_rol, e_par, e_par2, e_par3, e_wh1_t, e_wh1_f, e_wh2_nx, e_wh2_ct, e_wh2_bk, e_wh2_rt, List.length_cons, List.length_map, List.length_nil, List.map_cons, List.map_nil, List.replicate_succ, List.replicate_zero, Nat.reduceSub, Nat.reduceAdd, Nat.reduceLT, Nat.reduceLeDiff, Nat.reduceEqDiff, List.set_cons_zero, List.set_cons_succ, List.cons_append, List.nil_append, List.append_nil, decide_true, decide_false, Bool.not_true, Bool.not_false, reduceCtorEq, eq_self, Nat.zero_add, Nat.add_zero, Nat.zero_lt_succ, Nat.lt_add_left_iff_pos, Nat.succ_pos]
      rfl
    · simp only [e_bok, e_bexc, fin_rt, fin_nx, fin_exc, run1, run2, run3, run4, e_seq, e_seq_nx, e_seq_rt, e_seq_bk, e_seq_ct, e_nil, e_pass, e_brk, e_cnt, e_retN, e_raise, e_drop, e_drop1, e_ret, take_flat, e_ret_deep, e_ret_one, e_ret_none, e_if, e_if_t, e_if_f, e_set, e_set_deep, e_set_none, e_down_nil, e_wipe_nil, e_wipe, e_c, e_slot0, e_slotS, e_var, e_var1, e_rv_int, e_rv_str, e_rv_bl, e_rv_non, e_rv_lstD, e_rv_lstR, e_rv_lstS, e_rv_dicD, e_rv_dicR, e_rv_dicS, e_bin, e_bin1, e_one, e_tOf, e_toB, e_tNot, e_tNot1, e_tAnd, e_tOr, e_tAnd_t, e_tAnd_f, e_tOr_t, e_tOr_f, e_and, e_or, e_and_t, e_and_f, e_or_t, e_or_f, e_not, e_not1, e_neg, e_neg1, e_ife, e_ife_t, e_ife_f, e_aNil, e_aCons, e_aCons1, e_aCons2, e_tup, e_lst, e_tup1, e_lst1, e_src0, e_srcS, e_mv0, e_mvS, e_mvN, e_mvC, e_mvC0, e_add_i, e_add_s, e_add_l, e_sub, e_mod, e_fdv, e_mul, e_mul_s, e_pow18, e_lt, e_le, e_gt, e_ge, e_eq, e_ne, e_eq1, e_ne1, eqF_s, eqF_i, eqF_b, eqF_ln, eqF_rn, e_in_s, e_in_l, e_in_r, e_in_t, e_in_d, e_in1, e_rsB_f, e_rsB_t, e_pick_s, e_pick_i, e_pick_b, e_pick_l, e_pick_d, e_subs_l, e_subs_r, e_subs_t, e_subs_s, e_subs_d, e_subs1, e_subsS, e_oNone, e_oSome, e_oSome1, e_sl, e_sl1, e_sl2, e_sl_s, e_sl_l, e_sl_r, e_newL, e_newN, e_len_l, e_len_r, e_len_t, e_len_d, e_len_s, e_sum, e_all, e_any, e_m1, e_m11, e_startsw, e_strip, e_lstrip, e_split, e_join, e_iOf, e_it_l, e_it_r, e_it_t, e_it_s, e_range1, e_rg1, e_for, e_for1, e_comp, e_comp1, e_tTrue, e_step, e_step_t, e_step_f, e_step2, e_bind1, e_call, e_call1, e_call_s, e_call_i, e_call_b, e_call_n, e_call_l, e_call_d, e_isi_s, e_cut_hi, e_cut_lo, e_cut_mid, e_cut_last, e_cut_init, e_rv_rol, e_par, e_par2, e_par3, e_wh1_t, e_wh1_f, e_wh2_nx, e_wh2_ct, e_wh2_bk, e_wh2_rt, List.length_cons, List.length_map, List.length_nil, List.map_cons, List.map_nil, List.replicate_succ, List.replicate_zero, Nat.reduceSub, Nat.reduceAdd, Nat.reduceLT, Nat.reduceLeDiff, Nat.reduceEqDiff, List.set_cons_zero, List.set_cons_succ, List.cons_append, List.nil_append, List.append_nil, decide_true, decide_false, Bool.not_true, Bool.not_false, reduceCtorEq, eq_self, Nat.zero_add, Nat.add_zero, Nat.zero_lt_succ, Nat.lt_add_left_iff_pos, Nat.succ_pos, if_true]
  have hl0 := spl_len x []
  have hl1 := filter_len (p := neB) (splitL [32] x)
  have hl2 : (((splitL [32] x).filter neB).map (fun w : Tx => w.length)).sum + ((splitL [32] x).filter neB).length ≤ 2001 := by
    unfold splitL at hl1 ⊢
    simp at hl0
    omega
  have hk := e_comp1 (l := []) (own := [2]) (E := [some (.str x, .shr), none, none]) hc (by
    rw [List.length_map]
    omega)
  have hj : (((splitL [32] x).filter neB).map (fun w : Tx => w.length)).sum + ((splitL [32] x).filter neB).length * ([32] : Tx).length ≤ 1000000 := by
    simp only [List.length_cons, List.length_nil, Nat.zero_add, Nat.mul_one]
    omega
  have hf : ((splitL [32] x).filter neB).map (fun x => Dat.str x) = ((splitL [32] x).filter neB).map Dat.str := rfl
  have hw : ∀ (n : Nat) (s : Tx), Nm s → s.length < n → s.length ≤ 1000000 → whileGo (tOf (fM1 gStartsW (fVar 1) (fC (.str [114, 101, 58])))) (sSet false 1 (fM1 gStrip (fSl (fVar 1) (oSome (fC (.int 3))) oNone) (fC (.str [32])))) n [some (.str x, .shr), some (.str s, .deep), none] = .ok (.nx [some (.str x, .shr), some (.str (lp n s), .deep), none]) := by
    intro n
    induction n with
    | zero => intro s _ h _; omega
    | succ n ih =>
      intro s hn hl hs
      rw [while_S]
      by_cases hr : s.take 3 = reT
      · obtain ⟨h2, h3, h4⟩ := stp_ok hn hr
        have e1 : (s.take 3 == [114, 101, 58]) = true := by simpa [reT] using hr
        have e2 : (s.drop (3 : Int).toNat).length ≤ 1000000 := by
          rw [List.length_drop]
          omega
        have e3 : (0 : Int) ≤ 3 := by decide
        have e4 : stripL (fun c => [32].contains c) (s.drop (3 : Int).toNat) = stp s := h2
        simp only [e_bok, e_bexc, fin_rt, fin_nx, fin_exc, run1, run2, run3, run4, e_seq, e_seq_nx, e_seq_rt, e_seq_bk, e_seq_ct, e_nil, e_pass, e_brk, e_cnt, e_retN, e_raise, e_drop, e_drop1, e_ret, take_flat, e_ret_deep, e_ret_one, e_ret_none, e_if, e_if_t, e_if_f, e_set, e_set_deep, e_set_none, e_down_nil, e_wipe_nil, e_wipe, e_c, e_slot0, e_slotS, e_var, e_var1, e_rv_int, e_rv_str, e_rv_bl, e_rv_non, e_rv_lstD, e_rv_lstR, e_rv_lstS, e_rv_dicD, e_rv_dicR, e_rv_dicS, e_bin, e_bin1, e_one, e_tOf, e_toB, e_tNot, e_tNot1, e_tAnd, e_tOr, e_tAnd_t, e_tAnd_f, e_tOr_t, e_tOr_f, e_and, e_or, e_and_t, e_and_f, e_or_t, e_or_f, e_not, e_not1, e_neg, e_neg1, e_ife, e_ife_t, e_ife_f, e_aNil, e_aCons, e_aCons1, e_aCons2, e_tup, e_lst, e_tup1, e_lst1, e_src0, e_srcS, e_mv0, e_mvS, e_mvN, e_mvC, e_mvC0, e_add_i, e_add_s, e_add_l, e_sub, e_mod, e_fdv, e_mul, e_mul_s, e_pow18, e_lt, e_le, e_gt, e_ge, e_eq, e_ne, e_eq1, e_ne1, eqF_s, eqF_i, eqF_b, eqF_ln, eqF_rn, e_in_s, e_in_l, e_in_r, e_in_t, e_in_d, e_in1, e_rsB_f, e_rsB_t, e_pick_s, e_pick_i, e_pick_b, e_pick_l, e_pick_d, e_subs_l, e_subs_r, e_subs_t, e_subs_s, e_subs_d, e_subs1, e_subsS, e_oNone, e_oSome, e_oSome1, e_sl, e_sl1, e_sl2, e_sl_s, e_sl_l, e_sl_r, e_newL, e_newN, e_len_l, e_len_r, e_len_t, e_len_d, e_len_s, e_sum, e_all, e_any, e_m1, e_m11, e_startsw, e_strip, e_lstrip, e_split, e_join, e_iOf, e_it_l, e_it_r, e_it_t, e_it_s, e_range1, e_rg1, e_for, e_for1, e_comp, e_comp1, e_tTrue, e_step, e_step_t, e_step_f, e_step2, e_bind1, e_call, e_call1, e_call_s, e_call_i, e_call_b, e_call_n, e_call_l, e_call_d, e_isi_s, e_cut_hi, e_cut_lo, e_cut_mid, e_cut_last, e_cut_init, e_rv_rol, e_par, e_par2, e_par3, e_wh1_t, e_wh1_f, e_wh2_nx, e_wh2_ct, e_wh2_bk, e_wh2_rt, List.length_cons, List.length_map, List.length_nil, List.map_cons, List.map_nil, List.replicate_succ, List.replicate_zero, Nat.reduceSub, Nat.reduceAdd, Nat.reduceLT, Nat.reduceLeDiff, Nat.reduceEqDiff, List.set_cons_zero, List.set_cons_succ, List.cons_append, List.nil_append, List.append_nil, decide_true, decide_false, Bool.not_true, Bool.not_false, reduceCtorEq, eq_self, Nat.zero_add, Nat.add_zero, Nat.zero_lt_succ, Nat.lt_add_left_iff_pos, Nat.succ_pos, e1, hs, e2, e3, e4]
        rw [ih _ h3 (by omega) (by omega)]
        simp only [lp, if_pos hr]
      · have e1 : (s.take 3 == [114, 101, 58]) = false := by simpa [reT] using hr
        simp only [e_bok, e_bexc, fin_rt, fin_nx, fin_exc, run1, run2, run3, run4, e_seq, e_seq_nx, e_seq_rt, e_seq_bk, e_seq_ct, e_nil, e_pass, e_brk, e_cnt, e_retN, e_raise, e_drop, e_drop1, e_ret, take_flat, e_ret_deep, e_ret_one, e_ret_none, e_if, e_if_t, e_if_f, e_set, e_set_deep, e_set_none, e_down_nil, e_wipe_nil, e_wipe, e_c, e_slot0, e_slotS, e_var, e_var1, e_rv_int, e_rv_str, e_rv_bl, e_rv_non, e_rv_lstD, e_rv_lstR, e_rv_lstS, e_rv_dicD, e_rv_dicR, e_rv_dicS, e_bin, e_bin1, e_one, e_tOf, e_toB, e_tNot, e_tNot1, e_tAnd, e_tOr, e_tAnd_t, e_tAnd_f, e_tOr_t, e_tOr_f, e_and, e_or, e_and_t, e_and_f, e_or_t, e_or_f, e_not, e_not1, e_neg, e_neg1, e_ife, e_ife_t, e_ife_f, e_aNil, e_aCons, e_aCons1, e_aCons2, e_tup, e_lst, e_tup1, e_lst1, e_src0, e_srcS, e_mv0, e_mvS, e_mvN, e_mvC, e_mvC0, e_add_i, e_add_s, e_add_l, e_sub, e_mod, e_fdv, e_mul, e_mul_s, e_pow18, e_lt, e_le, e_gt, e_ge, e_eq, e_ne, e_eq1, e_ne1, eqF_s, eqF_i, eqF_b, eqF_ln, eqF_rn, e_in_s, e_in_l, e_in_r, e_in_t, e_in_d, e_in1, e_rsB_f, e_rsB_t, e_pick_s, e_pick_i, e_pick_b, e_pick_l, e_pick_d, e_subs_l, e_subs_r, e_subs_t, e_subs_s, e_subs_d, e_subs1, e_subsS, e_oNone, e_oSome, e_oSome1, e_sl, e_sl1, e_sl2, e_sl_s, e_sl_l, e_sl_r, e_newL, e_newN, e_len_l, e_len_r, e_len_t, e_len_d, e_len_s, e_sum, e_all, e_any, e_m1, e_m11, e_startsw, e_strip, e_lstrip, e_split, e_join, e_iOf, e_it_l, e_it_r, e_it_t, e_it_s, e_range1, e_rg1, e_for, e_for1, e_comp, e_comp1, e_tTrue, e_step, e_step_t, e_step_f, e_step2, e_bind1, e_call, e_call1, e_call_s, e_call_i, e_call_b, e_call_n, e_call_l, e_call_d, e_isi_s, e_cut_hi, e_cut_lo, e_cut_mid, e_cut_last, e_cut_init, e_rv_rol, e_par, e_par2, e_par3, e_wh1_t, e_wh1_f, e_wh2_nx, e_wh2_ct, e_wh2_bk, e_wh2_rt, List.length_cons, List.length_map, List.length_nil, List.map_cons, List.map_nil, List.replicate_succ, List.replicate_zero, Nat.reduceSub, Nat.reduceAdd, Nat.reduceLT, Nat.reduceLeDiff, Nat.reduceEqDiff, List.set_cons_zero, List.set_cons_succ, List.cons_append, List.nil_append, List.append_nil, decide_true, decide_false, Bool.not_true, Bool.not_false, reduceCtorEq, eq_self, Nat.zero_add, Nat.add_zero, Nat.zero_lt_succ, Nat.lt_add_left_iff_pos, Nat.succ_pos, e1, lp, if_neg hr]
  have hnl := nr_len false false x
  simp at hnl
  simp only [e_bok, e_bexc, fin_rt, fin_nx, fin_exc, run1, run2, run3, run4, e_seq, e_seq_nx, e_seq_rt, e_seq_bk, e_seq_ct, e_nil, e_pass, e_brk, e_cnt, e_retN, e_raise, e_drop, e_drop1, e_ret, take_flat, e_ret_deep, e_ret_one, e_ret_none, e_if, e_if_t, e_if_f, e_set, e_set_deep, e_set_none, e_down_nil, e_wipe_nil, e_wipe, e_c, e_slot0, e_slotS, e_var, e_var1, e_rv_int, e_rv_str, e_rv_bl, e_rv_non, e_rv_lstD, e_rv_lstR, e_rv_lstS, e_rv_dicD, e_rv_dicR, e_rv_dicS, e_bin, e_bin1, e_one, e_tOf, e_toB, e_tNot, e_tNot1, e_tAnd, e_tOr, e_tAnd_t, e_tAnd_f, e_tOr_t, e_tOr_f, e_and, e_or, e_and_t, e_and_f, e_or_t, e_or_f, e_not, e_not1, e_neg, e_neg1, e_ife, e_ife_t, e_ife_f, e_aNil, e_aCons, e_aCons1, e_aCons2, e_tup, e_lst, e_tup1, e_lst1, e_src0, e_srcS, e_mv0, e_mvS, e_mvN, e_mvC, e_mvC0, e_add_i, e_add_s, e_add_l, e_sub, e_mod, e_fdv, e_mul, e_mul_s, e_pow18, e_lt, e_le, e_gt, e_ge, e_eq, e_ne, e_eq1, e_ne1, eqF_s, eqF_i, eqF_b, eqF_ln, eqF_rn, e_in_s, e_in_l, e_in_r, e_in_t, e_in_d, e_in1, e_rsB_f, e_rsB_t, e_pick_s, e_pick_i, e_pick_b, e_pick_l, e_pick_d, e_subs_l, e_subs_r, e_subs_t, e_subs_s, e_subs_d, e_subs1, e_subsS, e_oNone, e_oSome, e_oSome1, e_sl, e_sl1, e_sl2, e_sl_s, e_sl_l, e_sl_r, e_newL, e_newN, e_len_l, e_len_r, e_len_t, e_len_d, e_len_s, e_sum, e_all, e_any, e_m1, e_m11, e_startsw, e_strip, e_lstrip, e_split, e_join, e_iOf, e_it_l, e_it_r, e_it_t, e_it_s, e_range1, e_rg1, e_for, e_for1, e_comp, e_comp1, e_tTrue, e_step, e_step_t, e_step_f, e_step2, e_bind1, e_call, e_call1, e_call_s, e_call_i, e_call_b, e_call_n, e_call_l, e_call_d, e_isi_s, e_cut_hi, e_cut_lo, e_cut_mid, e_cut_last, e_cut_init, e_rv_rol, e_par, e_par2, e_par3, e_wh1_t, e_wh1_f, e_wh2_nx, e_wh2_ct, e_wh2_bk, e_wh2_rt, List.length_cons, List.length_map, List.length_nil, List.map_cons, List.map_nil, List.replicate_succ, List.replicate_zero, Nat.reduceSub, Nat.reduceAdd, Nat.reduceLT, Nat.reduceLeDiff, Nat.reduceEqDiff, List.set_cons_zero, List.set_cons_succ, List.cons_append, List.nil_append, List.append_nil, decide_true, decide_false, Bool.not_true, Bool.not_false, reduceCtorEq, eq_self, Nat.zero_add, Nat.add_zero, Nat.zero_lt_succ, Nat.lt_add_left_iff_pos, Nat.succ_pos, e_split (rt := false) (s := []) (m := some []) hs, hk, rComp_F, hf, e_join (rt := true) (s := []) (m := some []) hj, splitE]
  rw [hw 1000 _ (nr_nm x) (by omega) (by omega)]
  simp only [e_bok, e_bexc, fin_rt, fin_nx, fin_exc, run1, run2, run3, run4, e_seq, e_seq_nx, e_seq_rt, e_seq_bk, e_seq_ct, e_nil, e_pass, e_brk, e_cnt, e_retN, e_raise, e_drop, e_drop1, e_ret, take_flat, e_ret_deep, e_ret_one, e_ret_none, e_if, e_if_t, e_if_f, e_set, e_set_deep, e_set_none, e_down_nil, e_wipe_nil, e_wipe, e_c, e_slot0, e_slotS, e_var, e_var1, e_rv_int, e_rv_str, e_rv_bl, e_rv_non, e_rv_lstD, e_rv_lstR, e_rv_lstS, e_rv_dicD, e_rv_dicR, e_rv_dicS, e_bin, e_bin1, e_one, e_tOf, e_toB, e_tNot, e_tNot1, e_tAnd, e_tOr, e_tAnd_t, e_tAnd_f, e_tOr_t, e_tOr_f, e_and, e_or, e_and_t, e_and_f, e_or_t, e_or_f, e_not, e_not1, e_neg, e_neg1, e_ife, e_ife_t, e_ife_f, e_aNil, e_aCons, e_aCons1, e_aCons2, e_tup, e_lst, e_tup1, e_lst1, e_src0, e_srcS, e_mv0, e_mvS, e_mvN, e_mvC, e_mvC0, e_add_i, e_add_s, e_add_l, e_sub, e_mod, e_fdv, e_mul, e_mul_s, e_pow18, e_lt, e_le, e_gt, e_ge, e_eq, e_ne, e_eq1, e_ne1, eqF_s, eqF_i, eqF_b, eqF_ln, eqF_rn, e_in_s, e_in_l, e_in_r, e_in_t, e_in_d, e_in1, e_rsB_f, e_rsB_t, e_pick_s, e_pick_i, e_pick_b, e_pick_l, e_pick_d, e_subs_l, e_subs_r, e_subs_t, e_subs_s, e_subs_d, e_subs1, e_subsS, e_oNone, e_oSome, e_oSome1, e_sl, e_sl1, e_sl2, e_sl_s, e_sl_l, e_sl_r, e_newL, e_newN, e_len_l, e_len_r, e_len_t, e_len_d, e_len_s, e_sum, e_all, e_any, e_m1, e_m11, e_startsw, e_strip, e_lstrip, e_split, e_join, e_iOf, e_it_l, e_it_r, e_it_t, e_it_s, e_range1, e_rg1, e_for, e_for1, e_comp, e_comp1, e_tTrue, e_step, e_step_t, e_step_f, e_step2, e_bind1, e_call, e_call1, e_call_s, e_call_i, e_call_b, e_call_n, e_call_l, e_call_d, e_isi_s, e_cut_hi, e_cut_lo, e_cut_mid, e_cut_last, e_cut_init, e_rv_rol, e_par, e_par2, e_par3, e_wh1_t, e_wh1_f, e_wh2_nx, e_wh2_ct, e_wh2_bk, e_wh2_rt, List.length_cons, List.length_map, List.length_nil, List.map_cons, List.map_nil, List.replicate_succ, List.replicate_zero, Nat.reduceSub, Nat.reduceAdd, Nat.reduceLT, Nat.reduceLeDiff, Nat.reduceEqDiff, List.set_cons_zero, List.set_cons_succ, List.cons_append, List.nil_append, List.append_nil, decide_true, decide_false, Bool.not_true, Bool.not_false, reduceCtorEq, eq_self, Nat.zero_add, Nat.add_zero, Nat.zero_lt_succ, Nat.lt_add_left_iff_pos, Nat.succ_pos]
  rfl
theorem bareE {x : Tx} (h : x.length ≤ 12) (h2 : okT x) : c_bare [.str x] = .ok (.str (bareL x), true) := by
  unfold c_bare g_bare
  have h1 : (decide (x.length ≤ 12) && x.all okS) = true := by
    rw [decide_eq_true h, h2]
    rfl
  have e1 : c_is_title [.str x] = .ok (.bl true, true) := by
    rw [isTitleE (by omega), h1]
  have e2 := bareOfE (x := x) (by omega)
  simp only [e_bok, e_bexc, fin_rt, fin_nx, fin_exc, run1, run2, run3, run4, e_seq, e_seq_nx, e_seq_rt, e_seq_bk, e_seq_ct, e_nil, e_pass, e_brk, e_cnt, e_retN, e_raise, e_drop, e_drop1, e_ret, take_flat, e_ret_deep, e_ret_one, e_ret_none, e_if, e_if_t, e_if_f, e_set, e_set_deep, e_set_none, e_down_nil, e_wipe_nil, e_wipe, e_c, e_slot0, e_slotS, e_var, e_var1, e_rv_int, e_rv_str, e_rv_bl, e_rv_non, e_rv_lstD, e_rv_lstR, e_rv_lstS, e_rv_dicD, e_rv_dicR, e_rv_dicS, e_bin, e_bin1, e_one, e_tOf, e_toB, e_tNot, e_tNot1, e_tAnd, e_tOr, e_tAnd_t, e_tAnd_f, e_tOr_t, e_tOr_f, e_and, e_or, e_and_t, e_and_f, e_or_t, e_or_f, e_not, e_not1, e_neg, e_neg1, e_ife, e_ife_t, e_ife_f, e_aNil, e_aCons, e_aCons1, e_aCons2, e_tup, e_lst, e_tup1, e_lst1, e_src0, e_srcS, e_mv0, e_mvS, e_mvN, e_mvC, e_mvC0, e_add_i, e_add_s, e_add_l, e_sub, e_mod, e_fdv, e_mul, e_mul_s, e_pow18, e_lt, e_le, e_gt, e_ge, e_eq, e_ne, e_eq1, e_ne1, eqF_s, eqF_i, eqF_b, eqF_ln, eqF_rn, e_in_s, e_in_l, e_in_r, e_in_t, e_in_d, e_in1, e_rsB_f, e_rsB_t, e_pick_s, e_pick_i, e_pick_b, e_pick_l, e_pick_d, e_subs_l, e_subs_r, e_subs_t, e_subs_s, e_subs_d, e_subs1, e_subsS, e_oNone, e_oSome, e_oSome1, e_sl, e_sl1, e_sl2, e_sl_s, e_sl_l, e_sl_r, e_newL, e_newN, e_len_l, e_len_r, e_len_t, e_len_d, e_len_s, e_sum, e_all, e_any, e_m1, e_m11, e_startsw, e_strip, e_lstrip, e_split, e_join, e_iOf, e_it_l, e_it_r, e_it_t, e_it_s, e_range1, e_rg1, e_for, e_for1, e_comp, e_comp1, e_tTrue, e_step, e_step_t, e_step_f, e_step2, e_bind1, e_call, e_call1, e_call_s, e_call_i, e_call_b, e_call_n, e_call_l, e_call_d, e_isi_s, e_cut_hi, e_cut_lo, e_cut_mid, e_cut_last, e_cut_init, e_rv_rol, e_par, e_par2, e_par3, e_wh1_t, e_wh1_f, e_wh2_nx, e_wh2_ct, e_wh2_bk, e_wh2_rt, List.length_cons, List.length_map, List.length_nil, List.map_cons, List.map_nil, List.replicate_succ, List.replicate_zero, Nat.reduceSub, Nat.reduceAdd, Nat.reduceLT, Nat.reduceLeDiff, Nat.reduceEqDiff, List.set_cons_zero, List.set_cons_succ, List.cons_append, List.nil_append, List.append_nil, decide_true, decide_false, Bool.not_true, Bool.not_false, reduceCtorEq, eq_self, Nat.zero_add, Nat.add_zero, Nat.zero_lt_succ, Nat.lt_add_left_iff_pos, Nat.succ_pos, e1, e2]
/-! ### the law's own reading -/
def stepL (f : Tx) (c : Nat) : Tx := if c ≠ 32 ∨ ¬ (f = [] ∨ f.getLast? = some 32) then f ++ [c] else f
def finL (f : Tx) : Tx := if f.drop (f.length - 1) = [32] then f.take (f.length - 1) else f
theorem drop_last (f : Tx) : f.drop (f.length - 1) = match f.getLast? with
    | some c => [c]
    | none => [] := by
  rcases List.eq_nil_or_concat f with rfl | ⟨g, c, rfl⟩
  · rfl
  · simp
def EndA (f : Tx) : Prop := ∃ g c, f = g ++ [c] ∧ c ≠ 32
theorem fold_nr : ∀ (r f : Tx), (f = [] → finL (r.foldl stepL f) = nr false false r) ∧ (EndA f → finL (r.foldl stepL f) = f ++ nr true false r) ∧ (∀ g, EndA g → f = g ++ [32] → finL (r.foldl stepL f) = g ++ nr true true r)
  | [], f => by
    refine ⟨fun h => ?_, fun ⟨g, c, e, hc⟩ => ?_, fun g ⟨g', c, e, hc⟩ e2 => ?_⟩
    · subst h
      rfl
    · subst e
      simp [finL, nr, hc]
    · subst e2
      simp [finL, nr]
  | c :: r, f => by
    rw [List.foldl_cons]
    obtain ⟨h1, h2, h3⟩ := fold_nr r (stepL f c)
    refine ⟨fun h => ?_, fun ⟨g, b, e, hb⟩ => ?_, fun g ⟨g', b, e, hb⟩ e2 => ?_⟩
    · subst h
      by_cases hc : c = 32
      · subst hc
        rw [nr_sp, nr_f true r]
        exact h1 rfl
      · have e : stepL [] c = [c] := by simp [stepL, hc]
        rw [e] at h2 ⊢
        rw [h2 ⟨[], c, rfl, hc⟩, nr_c _ _ hc]
        rfl
    · by_cases hc : c = 32
      · subst hc
        have e3 : stepL f 32 = f ++ [32] := by
          subst e
          simp [stepL, hb]
        rw [nr_sp]
        exact h3 f ⟨g, b, e, hb⟩ e3
      · have e3 : stepL f c = f ++ [c] := by simp [stepL, hc]
        rw [e3] at h2 ⊢
        rw [h2 ⟨f, c, rfl, hc⟩, nr_tf _ hc]
        simp
    · by_cases hc : c = 32
      · subst hc
        have e3 : stepL f 32 = f := by
          subst e2
          simp [stepL]
        rw [nr_sp]
        exact h3 g ⟨g', b, e, hb⟩ (by rw [e3, e2])
      · have e3 : stepL f c = f ++ [c] := by simp [stepL, hc]
        rw [e3] at h2 ⊢
        rw [h2 ⟨f, c, rfl, hc⟩, nr_tt _ hc, e2]
        simp
theorem foldE (x : Tx) : finL (x.foldl stepL []) = nr false false x := (fold_nr x []).1 rfl
theorem fold_len : ∀ (r f : Tx), (r.foldl stepL f).length ≤ f.length + r.length
  | [], f => by simp
  | c :: r, f => by
    rw [List.foldl_cons]
    have := fold_len r (stepL f c)
    have h2 : (stepL f c).length ≤ f.length + 1 := by
      unfold stepL
      split <;> simp
    simp
    omega
theorem lawBareE {x : Tx} (h : x.length ≤ 12) : c__law_bare [.str x] = .ok (.str (bareL x), true) := by
  unfold c__law_bare g__law_bare b__law_bare_1 t__law_bare_1 b__law_bare_2
  have hfor : ∃ x2, forGo (.one 2) (sIf (tOr' (tOf (fBin gNe (fVar 2) (fC (.str [32])))) (tOf (fBin (gIn true) (fSl (fVar 1) (oSome (fNeg (fC (.int 1)))) oNone) (fTup (aCons (fC (.str [])) (aCons (fC (.str [32])) aNil)))))) (sSet false 1 (fBin gAdd (fVar 1) (fVar 2))) sNil) (x.map fun c => Dat.str [c]) [some (.str x, .shr), some (.str [], .deep), none] = .ok (.nx [some (.str x, .shr), some (.str (x.foldl stepL []), .deep), x2]) := by
    have hinv := forGo_inv (T := .one 2) (g := (sIf (tOr' (tOf (fBin gNe (fVar 2) (fC (.str [32])))) (tOf (fBin (gIn true) (fSl (fVar 1) (oSome (fNeg (fC (.int 1)))) oNone) (fTup (aCons (fC (.str [])) (aCons (fC (.str [32])) aNil)))))) (sSet false 1 (fBin gAdd (fVar 1) (fVar 2))) sNil))
      (fun ds E => ∃ (r f : Tx) (x2 : Option (Dat × Kd)), ds = r.map (fun c => Dat.str [c]) ∧ E = [some (.str x, .shr), some (.str f, .deep), x2] ∧ r.foldl stepL f = x.foldl stepL [] ∧ f.length + r.length ≤ 12) (ds := x.map fun c => Dat.str [c]) (E := [some (.str x, .shr), some (.str [], .deep), none]) ⟨x, [], none, rfl, rfl, rfl, by simpa using h⟩ ?st
    case st =>
      rintro d rest E ⟨r, f, x2, e1, rfl, e3, e4⟩
      cases r with
      | nil => cases e1
      | cons c r =>
        injection e1 with ed er
        subst ed er
        refine ⟨_, _, e_bind1 (by simp), .inl ?_, r, stepL f c, some (.str [c], .shr), rfl, rfl, e3, ?_⟩
        · have e5 : ([c] = [32]) = (c = 32) := by simp
          have l1 : f.length ≤ 1000000 := by simp at e4; omega
          have l2 : f.length + ([c] : Tx).length ≤ 1000000 := by simp at e4 ⊢; omega
          have en : -(1 : Int) = -1 := rfl
          have a1 : anyEq (.str (f.drop (f.length - 1))) [.str [], .str [32]] = .ok (decide (f = [] ∨ f.getLast? = some 32)) := by
            have := anyEq_s (x := f.drop (f.length - 1)) (ys := [[], [32]])
            simp only [List.map_cons, List.map_nil] at this
            rw [this, drop_last]
            rcases List.eq_nil_or_concat f with rfl | ⟨g, b, rfl⟩
            · rfl
            · simp
          by_cases hc : c = 32
          · subst hc
            have l3 : (2 : Nat) ≤ 1000000 := by decide
            by_cases h5 : f = [] ∨ f.getLast? = some 32
            · have e6 : stepL f 32 = f := by simp [stepL, h5]
              simp only [e_bok, e_bexc, fin_rt, fin_nx, fin_exc, run1, run2, run3, run4, e_seq, e_seq_nx, e_seq_rt, e_seq_bk, e_seq_ct, e_nil, e_pass, e_brk, e_cnt, e_retN, e_raise, e_drop, e_drop1, e_ret, take_flat, e_ret_deep, e_ret_one, e_ret_none, e_if, e_if_t, e_if_f, e_set, e_set_deep, e_set_none, e_down_nil, e_wipe_nil, e_wipe, e_c, e_slot0, e_slotS, e_var, e_var1, e_rv_int, e_rv_str, e_rv_bl, e_rv_non, e_rv_lstD, e_rv_lstR, e_rv_lstS, e_rv_dicD, e_rv_dicR, e_rv_dicS, e_bin, e_bin1, e_one, e_tOf, e_toB, e_tNot, e_tNot1, e_tAnd, e_tOr, e_tAnd_t, e_tAnd_f, e_tOr_t, e_tOr_f, e_and, e_or, e_and_t, e_and_f, e_or_t, e_or_f, e_not, e_not1, e_neg, e_neg1, e_ife, e_ife_t, e_ife_f, e_aNil, e_aCons, e_aCons1, e_aCons2, e_tup, e_lst, e_tup1, e_lst1, e_src0, e_srcS, e_mv0, e_mvS, e_mvN, e_mvC, e_mvC0, e_add_i, e_add_s, e_add_l, e_sub, e_mod, e_fdv, e_mul, e_mul_s, e_pow18, e_lt, e_le, e_gt, e_ge, e_eq, e_ne, e_eq1, e_ne1, eqF_s, eqF_i, eqF_b, eqF_ln, eqF_rn, e_in_s, e_in_l, e_in_r, e_in_t, e_in_d, e_in1, e_rsB_f, e_rsB_t, e_pick_s, e_pick_i, e_pick_b, e_pick_l, e_pick_d, e_subs_l, e_subs_r, e_subs_t, e_subs_s, e_subs_d, e_subs1, e_subsS, e_oNone, e_oSome, e_oSome1, e_sl, e_sl1, e_sl2, e_sl_s, e_sl_l, e_sl_r, e_newL, e_newN, e_len_l, e_len_r, e_len_t, e_len_d, e_len_s, e_sum, e_all, e_any, e_m1, e_m11, e_startsw, e_strip, e_lstrip, e_split, e_join, e_iOf, e_it_l, e_it_r, e_it_t, e_it_s, e_range1, e_rg1, e_for, e_for1, e_comp, e_comp1, e_tTrue, e_step, e_step_t, e_step_f, e_step2, e_bind1, e_call, e_call1, e_call_s, e_call_i, e_call_b, e_call_n, e_call_l, e_call_d, e_isi_s, e_cut_hi, e_cut_lo, e_cut_mid, e_cut_last, e_cut_init, e_rv_rol, e_par, e_par2, e_par3, e_wh1_t, e_wh1_f, e_wh2_nx, e_wh2_ct, e_wh2_bk, e_wh2_rt, List.length_cons, List.length_map, List.length_nil, List.map_cons, List.map_nil, List.replicate_succ, List.replicate_zero, Nat.reduceSub, Nat.reduceAdd, Nat.reduceLT, Nat.reduceLeDiff, Nat.reduceEqDiff, List.set_cons_zero, List.set_cons_succ, List.cons_append, List.nil_append, List.append_nil, decide_true, decide_false, Bool.not_true, Bool.not_false, reduceCtorEq, eq_self, Nat.zero_add, Nat.add_zero, Nat.zero_lt_succ, Nat.lt_add_left_iff_pos, Nat.succ_pos, eq_self, l1, l3, en, a1, h5, e6]
            · have e6 : stepL f 32 = f ++ [32] := by
                unfold stepL
                rw [if_pos (.inr h5)]
              simp only [e_bok, e_bexc, fin_rt, fin_nx, fin_exc, run1, run2, run3, run4, e_seq, e_seq_nx, e_seq_rt, e_seq_bk, e_seq_ct, e_nil, e_pass, e_brk, e_cnt, e_retN, e_raise, e_drop, e_drop1, e_ret, take_flat, e_ret_deep, e_ret_one, e_ret_none, e_if, e_if_t, e_if_f, e_set, e_set_deep, e_set_none, e_down_nil, e_wipe_nil, e_wipe, e_c, e_slot0, e_slotS, e_var, e_var1, e_rv_int, e_rv_str, e_rv_bl, e_rv_non, e_rv_lstD, e_rv_lstR, e_rv_lstS, e_rv_dicD, e_rv_dicR, e_rv_dicS, e_bin, e_bin1, e_one, e_tOf, e_toB, e_tNot, e_tNot1, e_tAnd, e_tOr, e_tAnd_t, e_tAnd_f, e_tOr_t, e_tOr_f, e_and, e_or, e_and_t, e_and_f, e_or_t, e_or_f, e_not, e_not1, e_neg, e_neg1, e_ife, e_ife_t, e_ife_f, e_aNil, e_aCons, e_aCons1, e_aCons2, e_tup, e_lst, e_tup1, e_lst1, e_src0, e_srcS, e_mv0, e_mvS, e_mvN, e_mvC, e_mvC0, e_add_i, e_add_s, e_add_l, e_sub, e_mod, e_fdv, e_mul, e_mul_s, e_pow18, e_lt, e_le, e_gt, e_ge, e_eq, e_ne, e_eq1, e_ne1, eqF_s, eqF_i, eqF_b, eqF_ln, eqF_rn, e_in_s, e_in_l, e_in_r, e_in_t, e_in_d, e_in1, e_rsB_f, e_rsB_t, e_pick_s, e_pick_i, e_pick_b, e_pick_l, e_pick_d, e_subs_l, e_subs_r, e_subs_t, e_subs_s, e_subs_d, e_subs1, e_subsS, e_oNone, e_oSome, e_oSome1, e_sl, e_sl1, e_sl2, e_sl_s, e_sl_l, e_sl_r, e_newL, e_newN, e_len_l, e_len_r, e_len_t, e_len_d, e_len_s, e_sum, e_all, e_any, e_m1, e_m11, e_startsw, e_strip, e_lstrip, e_split, e_join, e_iOf, e_it_l, e_it_r, e_it_t, e_it_s, e_range1, e_rg1, e_for, e_for1, e_comp, e_comp1, e_tTrue, e_step, e_step_t, e_step_f, e_step2, e_bind1, e_call, e_call1, e_call_s, e_call_i, e_call_b, e_call_n, e_call_l, e_call_d, e_isi_s, e_cut_hi, e_cut_lo, e_cut_mid, e_cut_last, e_cut_init, e_rv_rol, e_par, e_par2, e_par3, e_wh1_t, e_wh1_f, e_wh2_nx, e_wh2_ct, e_wh2_bk, e_wh2_rt, List.length_cons, List.length_map, List.length_nil, List.map_cons, List.map_nil, List.replicate_succ, List.replicate_zero, Nat.reduceSub, Nat.reduceAdd, Nat.reduceLT, Nat.reduceLeDiff, Nat.reduceEqDiff, List.set_cons_zero, List.set_cons_succ, List.cons_append, List.nil_append, List.append_nil, decide_true, decide_false, Bool.not_true, Bool.not_false, reduceCtorEq, eq_self, Nat.zero_add, Nat.add_zero, Nat.zero_lt_succ, Nat.lt_add_left_iff_pos, Nat.succ_pos, eq_self, l1, l2, l3, en, a1, h5, e6, e_add_s (rt := false) (rt' := false) (s := []) (s' := []) (m := some []) (m' := some []) l2]
          · have e6 : stepL f c = f ++ [c] := by simp [stepL, hc]
            simp only [e_bok, e_bexc, fin_rt, fin_nx, fin_exc, run1, run2, run3, run4, e_seq, e_seq_nx, e_seq_rt, e_seq_bk, e_seq_ct, e_nil, e_pass, e_brk, e_cnt, e_retN, e_raise, e_drop, e_drop1, e_ret, take_flat, e_ret_deep, e_ret_one, e_ret_none, e_if, e_if_t, e_if_f, e_set, e_set_deep, e_set_none, e_down_nil, e_wipe_nil, e_wipe, e_c, e_slot0, e_slotS, e_var, e_var1, e_rv_int, e_rv_str, e_rv_bl, e_rv_non, e_rv_lstD, e_rv_lstR, e_rv_lstS, e_rv_dicD, e_rv_dicR, e_rv_dicS, e_bin, e_bin1, e_one, e_tOf, e_toB, e_tNot, e_tNot1, e_tAnd, e_tOr, e_tAnd_t, e_tAnd_f, e_tOr_t, e_tOr_f, e_and, e_or, e_and_t, e_and_f, e_or_t, e_or_f, e_not, e_not1, e_neg, e_neg1, e_ife, e_ife_t, e_ife_f, e_aNil, e_aCons, e_aCons1, e_aCons2, e_tup, e_lst, e_tup1, e_lst1, e_src0, e_srcS, e_mv0, e_mvS, e_mvN, e_mvC, e_mvC0, e_add_i, e_add_s, e_add_l, e_sub, e_mod, e_fdv, e_mul, e_mul_s, e_pow18, e_lt, e_le, e_gt, e_ge, e_eq, e_ne, e_eq1, e_ne1, eqF_s, eqF_i, eqF_b, eqF_ln, eqF_rn, e_in_s, e_in_l, e_in_r, e_in_t, e_in_d, e_in1, e_rsB_f, e_rsB_t, e_pick_s, e_pick_i, e_pick_b, e_pick_l, e_pick_d, e_subs_l, e_subs_r, e_subs_t, e_subs_s, e_subs_d, e_subs1, e_subsS, e_oNone, e_oSome, e_oSome1, e_sl, e_sl1, e_sl2, e_sl_s, e_sl_l, e_sl_r, e_newL, e_newN, e_len_l, e_len_r, e_len_t, e_len_d, e_len_s, e_sum, e_all, e_any, e_m1, e_m11, e_startsw, e_strip, e_lstrip, e_split, e_join, e_iOf, e_it_l, e_it_r, e_it_t, e_it_s, e_range1, e_rg1, e_for, e_for1, e_comp, e_comp1, e_tTrue, e_step, e_step_t, e_step_f, e_step2, e_bind1, e_call, e_call1, e_call_s, e_call_i, e_call_b, e_call_n, e_call_l, e_call_d, e_isi_s, e_cut_hi, e_cut_lo, e_cut_mid, e_cut_last, e_cut_init, e_rv_rol, e_par, e_par2, e_par3, e_wh1_t, e_wh1_f, e_wh2_nx, e_wh2_ct, e_wh2_bk, e_wh2_rt, List.length_cons, List.length_map, List.length_nil, List.map_cons, List.map_nil, List.replicate_succ, List.replicate_zero, Nat.reduceSub, Nat.reduceAdd, Nat.reduceLT, Nat.reduceLeDiff, Nat.reduceEqDiff, List.set_cons_zero, List.set_cons_succ, List.cons_append, List.nil_append, List.append_nil, decide_true, decide_false, Bool.not_true, Bool.not_false, reduceCtorEq, eq_self, Nat.zero_add, Nat.add_zero, Nat.zero_lt_succ, Nat.lt_add_left_iff_pos, Nat.succ_pos, e5, hc, e6, e_add_s (rt := false) (rt' := false) (s := []) (s' := []) (m := some []) (m' := some []) l2]
        · have : (stepL f c).length ≤ f.length + 1 := by
            unfold stepL
            split <;> simp
          simp at e4
          omega
    obtain ⟨E', h1, r, f, x2, e1, e2, e3, _⟩ := hinv
    cases r with
    | nil => exact ⟨x2, by rw [h1, e2]; simp only [List.foldl_nil] at e3; rw [e3]⟩
    | cons c r => cases e1
  obtain ⟨x2, hfor⟩ := hfor
  have hw : ∀ (n : Nat) (s : Tx), Nm s → s.length < n → s.length ≤ 1000000 → whileGo (tOf (fBin gEq (fSl (fVar 1) oNone (oSome (fC (.int 3)))) (fC (.str [114, 101, 58])))) (sSet false 1 (fIf (tOf (fBin gEq (fSl (fVar 1) (oSome (fC (.int 3))) (oSome (fC (.int 4)))) (fC (.str [32])))) (fSl (fVar 1) (oSome (fC (.int 4))) oNone) (fSl (fVar 1) (oSome (fC (.int 3))) oNone))) n [some (.str x, .shr), some (.str s, .deep), x2] = .ok (.nx [some (.str x, .shr), some (.str (lp n s), .deep), x2]) := by
    intro n
    induction n with
    | zero => intro s _ h _; omega
    | succ n ih =>
      intro s hn hl hs
      rw [while_S]
      have e3 : (0 : Int) ≤ 3 := by decide
      have e4 : (0 : Int) ≤ 4 := by decide
      have t3 : (3 : Int).toNat = 3 := rfl
      have t4 : (4 : Int).toNat = 4 := rfl
      by_cases hr : s.take 3 = reT
      · obtain ⟨_, h3, h4⟩ := stp_ok hn hr
        have hr' : s.take 3 = [114, 101, 58] := hr
        by_cases h5 : (s.drop 3).take 1 = [32]
        · have e5 : stp s = s.drop 4 := if_pos h5
          simp only [e_bok, e_bexc, fin_rt, fin_nx, fin_exc, run1, run2, run3, run4, e_seq, e_seq_nx, e_seq_rt, e_seq_bk, e_seq_ct, e_nil, e_pass, e_brk, e_cnt, e_retN, e_raise, e_drop, e_drop1, e_ret, take_flat, e_ret_deep, e_ret_one, e_ret_none, e_if, e_if_t, e_if_f, e_set, e_set_deep, e_set_none, e_down_nil, e_wipe_nil, e_wipe, e_c, e_slot0, e_slotS, e_var, e_var1, e_rv_int, e_rv_str, e_rv_bl, e_rv_non, e_rv_lstD, e_rv_lstR, e_rv_lstS, e_rv_dicD, e_rv_dicR, e_rv_dicS, e_bin, e_bin1, e_one, e_tOf, e_toB, e_tNot, e_tNot1, e_tAnd, e_tOr, e_tAnd_t, e_tAnd_f, e_tOr_t, e_tOr_f, e_and, e_or, e_and_t, e_and_f, e_or_t, e_or_f, e_not, e_not1, e_neg, e_neg1, e_ife, e_ife_t, e_ife_f, e_aNil, e_aCons, e_aCons1, e_aCons2, e_tup, e_lst, e_tup1, e_lst1, e_src0, e_srcS, e_mv0, e_mvS, e_mvN, e_mvC, e_mvC0, e_add_i, e_add_s, e_add_l, e_sub, e_mod, e_fdv, e_mul, e_mul_s, e_pow18, e_lt, e_le, e_gt, e_ge, e_eq, e_ne, e_eq1, e_ne1, eqF_s, eqF_i, eqF_b, eqF_ln, eqF_rn, e_in_s, e_in_l, e_in_r, e_in_t, e_in_d, e_in1, e_rsB_f, e_rsB_t, e_pick_s, e_pick_i, e_pick_b, e_pick_l, e_pick_d, e_subs_l, e_subs_r, e_subs_t, e_subs_s, e_subs_d, e_subs1, e_subsS, e_oNone, e_oSome, e_oSome1, e_sl, e_sl1, e_sl2, e_sl_s, e_sl_l, e_sl_r, e_newL, e_newN, e_len_l, e_len_r, e_len_t, e_len_d, e_len_s, e_sum, e_all, e_any, e_m1, e_m11, e_startsw, e_strip, e_lstrip, e_split, e_join, e_iOf, e_it_l, e_it_r, e_it_t, e_it_s, e_range1, e_rg1, e_for, e_for1, e_comp, e_comp1, e_tTrue, e_step, e_step_t, e_step_f, e_step2, e_bind1, e_call, e_call1, e_call_s, e_call_i, e_call_b, e_call_n, e_call_l, e_call_d, e_isi_s, e_cut_hi, e_cut_lo, e_cut_mid, e_cut_last, e_cut_init, e_rv_rol, e_par, e_par2, e_par3, e_wh1_t, e_wh1_f, e_wh2_nx, e_wh2_ct, e_wh2_bk, e_wh2_rt, List.length_cons, List.length_map, List.length_nil, List.map_cons, List.map_nil, List.replicate_succ, List.replicate_zero, Nat.reduceSub, Nat.reduceAdd, Nat.reduceLT, Nat.reduceLeDiff, Nat.reduceEqDiff, List.set_cons_zero, List.set_cons_succ, List.cons_append, List.nil_append, List.append_nil, decide_true, decide_false, Bool.not_true, Bool.not_false, reduceCtorEq, eq_self, Nat.zero_add, Nat.add_zero, Nat.zero_lt_succ, Nat.lt_add_left_iff_pos, Nat.succ_pos, hs, e3, e4, t3, t4, hr', h5]
          rw [← e5, ih _ h3 (by omega) (by omega)]
          simp only [lp, if_pos hr]
        · have e5 : stp s = s.drop 3 := if_neg h5
          simp only [e_bok, e_bexc, fin_rt, fin_nx, fin_exc, run1, run2, run3, run4, e_seq, e_seq_nx, e_seq_rt, e_seq_bk, e_seq_ct, e_nil, e_pass, e_brk, e_cnt, e_retN, e_raise, e_drop, e_drop1, e_ret, take_flat, e_ret_deep, e_ret_one, e_ret_none, e_if, e_if_t, e_if_f, e_set, e_set_deep, e_set_none, e_down_nil, e_wipe_nil, e_wipe, e_c, e_slot0, e_slotS, e_var, e_var1, e_rv_int, e_rv_str, e_rv_bl, e_rv_non, e_rv_lstD, e_rv_lstR, e_rv_lstS, e_rv_dicD, e_rv_dicR, e_rv_dicS, e_bin, e_bin1, e_one, e_tOf, e_toB, e_tNot, e_tNot1, e_tAnd, e_tOr, e_tAnd_t, e_tAnd_f, e_tOr_t, e_tOr_f, e_and, e_or, e_and_t, e_and_f, e_or_t, e_or_f, e_not, e_not1, e_neg, e_neg1, e_ife, e_ife_t, e_ife_f, e_aNil, e_aCons, e_aCons1, e_aCons2, e_tup, e_lst, e_tup1, e_lst1, e_src0, e_srcS, e_mv0, e_mvS, e_mvN, e_mvC, e_mvC0, e_add_i, e_add_s, e_add_l, e_sub, e_mod, e_fdv, e_mul, e_mul_s, e_pow18, e_lt, e_le, e_gt, e_ge, e_eq, e_ne, e_eq1, e_ne1, eqF_s, eqF_i, eqF_b, eqF_ln, eqF_rn, e_in_s, e_in_l, e_in_r, e_in_t, e_in_d, e_in1, e_rsB_f, e_rsB_t, e_pick_s, e_pick_i, e_pick_b, e_pick_l, e_pick_d, e_subs_l, e_subs_r, e_subs_t, e_subs_s, e_subs_d, e_subs1, e_subsS, e_oNone, e_oSome, e_oSome1, e_sl, e_sl1, e_sl2, e_sl_s, e_sl_l, e_sl_r, e_newL, e_newN, e_len_l, e_len_r, e_len_t, e_len_d, e_len_s, e_sum, e_all, e_any, e_m1, e_m11, e_startsw, e_strip, e_lstrip, e_split, e_join, e_iOf, e_it_l, e_it_r, e_it_t, e_it_s, e_range1, e_rg1, e_for, e_for1, e_comp, e_comp1, e_tTrue, e_step, e_step_t, e_step_f, e_step2, e_bind1, e_call, e_call1, e_call_s, e_call_i, e_call_b, e_call_n, e_call_l, e_call_d, e_isi_s, e_cut_hi, e_cut_lo, e_cut_mid, e_cut_last, e_cut_init, e_rv_rol, e_par, e_par2, e_par3, e_wh1_t, e_wh1_f, e_wh2_nx, e_wh2_ct, e_wh2_bk, e_wh2_rt, List.length_cons, List.length_map, List.length_nil, List.map_cons, List.map_nil, List.replicate_succ, List.replicate_zero, Nat.reduceSub, Nat.reduceAdd, Nat.reduceLT, Nat.reduceLeDiff, Nat.reduceEqDiff, List.set_cons_zero, List.set_cons_succ, List.cons_append, List.nil_append, List.append_nil, decide_true, decide_false, Bool.not_true, Bool.not_false, reduceCtorEq, eq_self, Nat.zero_add, Nat.add_zero, Nat.zero_lt_succ, Nat.lt_add_left_iff_pos, Nat.succ_pos, hs, e3, e4, t3, t4, hr', h5]
          rw [← e5, ih _ h3 (by omega) (by omega)]
          simp only [lp, if_pos hr]
      · have hr' : ¬ s.take 3 = [114, 101, 58] := hr
        simp only [e_bok, e_bexc, fin_rt, fin_nx, fin_exc, run1, run2, run3, run4, e_seq, e_seq_nx, e_seq_rt, e_seq_bk, e_seq_ct, e_nil, e_pass, e_brk, e_cnt, e_retN, e_raise, e_drop, e_drop1, e_ret, take_flat, e_ret_deep, e_ret_one, e_ret_none, e_if, e_if_t, e_if_f, e_set, e_set_deep, e_set_none, e_down_nil, e_wipe_nil, e_wipe, e_c, e_slot0, e_slotS, e_var, e_var1, e_rv_int, e_rv_str, e_rv_bl, e_rv_non, e_rv_lstD, e_rv_lstR, e_rv_lstS, e_rv_dicD, e_rv_dicR, e_rv_dicS, e_bin, e_bin1, e_one, e_tOf, e_toB, e_tNot, e_tNot1, e_tAnd, e_tOr, e_tAnd_t, e_tAnd_f, e_tOr_t, e_tOr_f, e_and, e_or, e_and_t, e_and_f, e_or_t, e_or_f, e_not, e_not1, e_neg, e_neg1, e_ife, e_ife_t, e_ife_f, e_aNil, e_aCons, e_aCons1, e_aCons2, e_tup, e_lst, e_tup1, e_lst1, e_src0, e_srcS, e_mv0, e_mvS, e_mvN, e_mvC, e_mvC0, e_add_i, e_add_s, e_add_l, e_sub, e_mod, e_fdv, e_mul, e_mul_s, e_pow18, e_lt, e_le, e_gt, e_ge, e_eq, e_ne, e_eq1, e_ne1, eqF_s, eqF_i, eqF_b, eqF_ln, eqF_rn, e_in_s, e_in_l, e_in_r, e_in_t, e_in_d, e_in1, e_rsB_f, e_rsB_t, e_pick_s, e_pick_i, e_pick_b, e_pick_l, e_pick_d, e_subs_l, e_subs_r, e_subs_t, e_subs_s, e_subs_d, e_subs1, e_subsS, e_oNone, e_oSome, e_oSome1, e_sl, e_sl1, e_sl2, e_sl_s, e_sl_l, e_sl_r, e_newL, e_newN, e_len_l, e_len_r, e_len_t, e_len_d, e_len_s, e_sum, e_all, e_any, e_m1, e_m11, e_startsw, e_strip, e_lstrip, e_split, e_join, e_iOf, e_it_l, e_it_r, e_it_t, e_it_s, e_range1, e_rg1, e_for, e_for1, e_comp, e_comp1, e_tTrue, e_step, e_step_t, e_step_f, e_step2, e_bind1, e_call, e_call1, e_call_s, e_call_i, e_call_b, e_call_n, e_call_l, e_call_d, e_isi_s, e_cut_hi, e_cut_lo, e_cut_mid, e_cut_last, e_cut_init, e_rv_rol, e_par, e_par2, e_par3, e_wh1_t, e_wh1_f, e_wh2_nx, e_wh2_ct, e_wh2_bk, e_wh2_rt, List.length_cons, List.length_map, List.length_nil, List.map_cons, List.map_nil, List.replicate_succ, List.replicate_zero, Nat.reduceSub, Nat.reduceAdd, Nat.reduceLT, Nat.reduceLeDiff, Nat.reduceEqDiff, List.set_cons_zero, List.set_cons_succ, List.cons_append, List.nil_append, List.append_nil, decide_true, decide_false, Bool.not_true, Bool.not_false, reduceCtorEq, eq_self, Nat.zero_add, Nat.add_zero, Nat.zero_lt_succ, Nat.lt_add_left_iff_pos, Nat.succ_pos, hs, e3, t3, hr', lp, if_neg hr]
  have hnl := nr_len false false x
  simp at hnl
  have hfl := fold_len x []
  simp at hfl
  have l0 : x.length ≤ 1000000 := by omega
  have l1 : (x.foldl stepL []).length ≤ 1000000 := by omega
  have en : -(1 : Int) = -1 := rfl
  by_cases h6 : (x.foldl stepL []).drop ((x.foldl stepL []).length - 1) = [32]
  · have e7 : (x.foldl stepL []).take ((x.foldl stepL []).length - 1) = nr false false x := by
      rw [← foldE]
      exact (if_pos h6).symm
    simp only [e_bok, e_bexc, fin_rt, fin_nx, fin_exc, run1, run2, run3, run4, e_seq, e_seq_nx, e_seq_rt, e_seq_bk, e_seq_ct, e_nil, e_pass, e_brk, e_cnt, e_retN, e_raise, e_drop, e_drop1, e_ret, take_flat, e_ret_deep, e_ret_one, e_ret_none, e_if, e_if_t, e_if_f, e_set, e_set_deep, e_set_none, e_down_nil, e_wipe_nil, e_wipe, e_c, e_slot0, e_slotS, e_var, e_var1, e_rv_int, e_rv_str, e_rv_bl, e_rv_non, e_rv_lstD, e_rv_lstR, e_rv_lstS, e_rv_dicD, e_rv_dicR, e_rv_dicS, e_bin, e_bin1, e_one, e_tOf, e_toB, e_tNot, e_tNot1, e_tAnd, e_tOr, e_tAnd_t, e_tAnd_f, e_tOr_t, e_tOr_f, e_and, e_or, e_and_t, e_and_f, e_or_t, e_or_f, e_not, e_not1, e_neg, e_neg1, e_ife, e_ife_t, e_ife_f, e_aNil, e_aCons, e_aCons1, e_aCons2, e_tup, e_lst, e_tup1, e_lst1, e_src0, e_srcS, e_mv0, e_mvS, e_mvN, e_mvC, e_mvC0, e_add_i, e_add_s, e_add_l, e_sub, e_mod, e_fdv, e_mul, e_mul_s, e_pow18, e_lt, e_le, e_gt, e_ge, e_eq, e_ne, e_eq1, e_ne1, eqF_s, eqF_i, eqF_b, eqF_ln, eqF_rn, e_in_s, e_in_l, e_in_r, e_in_t, e_in_d, e_in1, e_rsB_f, e_rsB_t, e_pick_s, e_pick_i, e_pick_b, e_pick_l, e_pick_d, e_subs_l, e_subs_r, e_subs_t, e_subs_s, e_subs_d, e_subs1, e_subsS, e_oNone, e_oSome, e_oSome1, e_sl, e_sl1, e_sl2, e_sl_s, e_sl_l, e_sl_r, e_newL, e_newN, e_len_l, e_len_r, e_len_t, e_len_d, e_len_s, e_sum, e_all, e_any, e_m1, e_m11, e_startsw, e_strip, e_lstrip, e_split, e_join, e_iOf, e_it_l, e_it_r, e_it_t, e_it_s, e_range1, e_rg1, e_for, e_for1, e_comp, e_comp1, e_tTrue, e_step, e_step_t, e_step_f, e_step2, e_bind1, e_call, e_call1, e_call_s, e_call_i, e_call_b, e_call_n, e_call_l, e_call_d, e_isi_s, e_cut_hi, e_cut_lo, e_cut_mid, e_cut_last, e_cut_init, e_rv_rol, e_par, e_par2, e_par3, e_wh1_t, e_wh1_f, e_wh2_nx, e_wh2_ct, e_wh2_bk, e_wh2_rt, List.length_cons, List.length_map, List.length_nil, List.map_cons, List.map_nil, List.replicate_succ, List.replicate_zero, Nat.reduceSub, Nat.reduceAdd, Nat.reduceLT, Nat.reduceLeDiff, Nat.reduceEqDiff, List.set_cons_zero, List.set_cons_succ, List.cons_append, List.nil_append, List.append_nil, decide_true, decide_false, Bool.not_true, Bool.not_false, reduceCtorEq, eq_self, Nat.zero_add, Nat.add_zero, Nat.zero_lt_succ, Nat.lt_add_left_iff_pos, Nat.succ_pos, l0, hfor, l1, en, h6, e7]
    rw [hw 1000 _ (nr_nm x) (by omega) (by omega)]
    simp only [e_bok, e_bexc, fin_rt, fin_nx, fin_exc, run1, run2, run3, run4, e_seq, e_seq_nx, e_seq_rt, e_seq_bk, e_seq_ct, e_nil, e_pass, e_brk, e_cnt, e_retN, e_raise, e_drop, e_drop1, e_ret, take_flat, e_ret_deep, e_ret_one, e_ret_none, e_if, e_if_t, e_if_f, e_set, e_set_deep, e_set_none, e_down_nil, e_wipe_nil, e_wipe, e_c, e_slot0, e_slotS, e_var, e_var1, e_rv_int, e_rv_str, e_rv_bl, e_rv_non, e_rv_lstD, e_rv_lstR, e_rv_lstS, e_rv_dicD, e_rv_dicR, e_rv_dicS, e_bin, e_bin1, e_one, e_tOf, e_toB, e_tNot, e_tNot1, e_tAnd, e_tOr, e_tAnd_t, e_tAnd_f, e_tOr_t, e_tOr_f, e_and, e_or, e_and_t, e_and_f, e_or_t, e_or_f, e_not, e_not1, e_neg, e_neg1, e_ife, e_ife_t, e_ife_f, e_aNil, e_aCons, e_aCons1, e_aCons2, e_tup, e_lst, e_tup1, e_lst1, e_src0, e_srcS, e_mv0, e_mvS, e_mvN, e_mvC, e_mvC0, e_add_i, e_add_s, e_add_l, e_sub, e_mod, e_fdv, e_mul, e_mul_s, e_pow18, e_lt, e_le, e_gt, e_ge, e_eq, e_ne, e_eq1, e_ne1, eqF_s, eqF_i, eqF_b, eqF_ln, eqF_rn, e_in_s, e_in_l, e_in_r, e_in_t, e_in_d, e_in1, e_rsB_f, e_rsB_t, e_pick_s, e_pick_i, e_pick_b, e_pick_l, e_pick_d, e_subs_l, e_subs_r, e_subs_t, e_subs_s, e_subs_d, e_subs1, e_subsS, e_oNone, e_oSome, e_oSome1, e_sl, e_sl1, e_sl2, e_sl_s, e_sl_l, e_sl_r, e_newL, e_newN, e_len_l, e_len_r, e_len_t, e_len_d, e_len_s, e_sum, e_all, e_any, e_m1, e_m11, e_startsw, e_strip, e_lstrip, e_split, e_join, e_iOf, e_it_l, e_it_r, e_it_t, e_it_s, e_range1, e_rg1, e_for, e_for1, e_comp, e_comp1, e_tTrue, e_step, e_step_t, e_step_f, e_step2, e_bind1, e_call, e_call1, e_call_s, e_call_i, e_call_b, e_call_n, e_call_l, e_call_d, e_isi_s, e_cut_hi, e_cut_lo, e_cut_mid, e_cut_last, e_cut_init, e_rv_rol, e_par, e_par2, e_par3, e_wh1_t, e_wh1_f, e_wh2_nx, e_wh2_ct, e_wh2_bk, e_wh2_rt, List.length_cons, List.length_map, List.length_nil, List.map_cons, List.map_nil, List.replicate_succ, List.replicate_zero, Nat.reduceSub, Nat.reduceAdd, Nat.reduceLT, Nat.reduceLeDiff, Nat.reduceEqDiff, List.set_cons_zero, List.set_cons_succ, List.cons_append, List.nil_append, List.append_nil, decide_true, decide_false, Bool.not_true, Bool.not_false, reduceCtorEq, eq_self, Nat.zero_add, Nat.add_zero, Nat.zero_lt_succ, Nat.lt_add_left_iff_pos, Nat.succ_pos]
    rfl
  · have e7 : x.foldl stepL [] = nr false false x := by
      have e8 := foldE x
      unfold finL at e8
      rwa [if_neg h6] at e8
    simp only [e_bok, e_bexc, fin_rt, fin_nx, fin_exc, run1, run2, run3, run4, e_seq, e_seq_nx, e_seq_rt, e_seq_bk, e_seq_ct, e_nil, e_pass, e_brk, e_cnt, e_retN, e_raise, e_drop, e_drop1, e_ret, take_flat, e_ret_deep, e_ret_one, e_ret_none, e_if, e_if_t, e_if_f, e_set, e_set_deep, e_set_none, e_down_nil, e_wipe_nil, e_wipe, e_c, e_slot0, e_slotS, e_var, e_var1, e_rv_int, e_rv_str, e_rv_bl, e_rv_non, e_rv_lstD, e_rv_lstR, e_rv_lstS, e_rv_dicD, e_rv_dicR, e_rv_dicS, e_bin, e_bin1, e_one, e_tOf, e_toB, e_tNot, e_tNot1, e_tAnd, e_tOr, e_tAnd_t, e_tAnd_f, e_tOr_t, e_tOr_f, e_and, e_or, e_and_t, e_and_f, e_or_t, e_or_f, e_not, e_not1, e_neg, e_neg1, e_ife, e_ife_t, e_ife_f, e_aNil, e_aCons, e_aCons1, e_aCons2, e_tup, e_lst, e_tup1, e_lst1, e_src0, e_srcS, e_mv0, e_mvS, e_mvN, e_mvC, e_mvC0, e_add_i, e_add_s, e_add_l, e_sub, e_mod, e_fdv, e_mul, e_mul_s, e_pow18, e_lt, e_le, e_gt, e_ge, e_eq, e_ne, e_eq1, e_ne1, eqF_s, eqF_i, eqF_b, eqF_ln, eqF_rn, e_in_s, e_in_l, e_in_r, e_in_t, e_in_d, e_in1, e_rsB_f, e_rsB_t, e_pick_s, e_pick_i, e_pick_b, e_pick_l, e_pick_d, e_subs_l, e_subs_r, e_subs_t, e_subs_s, e_subs_d, e_subs1, e_subsS, e_oNone, e_oSome, e_oSome1, e_sl, e_sl1, e_sl2, e_sl_s, e_sl_l, e_sl_r, e_newL, e_newN, e_len_l, e_len_r, e_len_t, e_len_d, e_len_s, e_sum, e_all, e_any, e_m1, e_m11, e_startsw, e_strip, e_lstrip, e_split, e_join, e_iOf, e_it_l, e_it_r, e_it_t, e_it_s, e_range1, e_rg1, e_for, e_for1, e_comp, e_comp1, e_tTrue, e_step, e_step_t, e_step_f, e_step2, e_bind1, e_call, e_call1, e_call_s, e_call_i, e_call_b, e_call_n, e_call_l, e_call_d, e_isi_s, e_cut_hi, e_cut_lo, e_cut_mid, e_cut_last, e_cut_init, e_rv_rol, e_par, e_par2, e_par3, e_wh1_t, e_wh1_f, e_wh2_nx, e_wh2_ct, e_wh2_bk, e_wh2_rt, List.length_cons, List.length_map, List.length_nil, List.map_cons, List.map_nil, List.replicate_succ, List.replicate_zero, Nat.reduceSub, Nat.reduceAdd, Nat.reduceLT, Nat.reduceLeDiff, Nat.reduceEqDiff, List.set_cons_zero, List.set_cons_succ, List.cons_append, List.nil_append, List.append_nil, decide_true, decide_false, Bool.not_true, Bool.not_false, reduceCtorEq, eq_self, Nat.zero_add, Nat.add_zero, Nat.zero_lt_succ, Nat.lt_add_left_iff_pos, Nat.succ_pos, l0, hfor, l1, en, h6]
    rw [e7, hw 1000 _ (nr_nm x) (by omega) (by omega)]
    simp only [e_bok, e_bexc, fin_rt, fin_nx, fin_exc, run1, run2, run3, run4, e_seq, e_seq_nx, e_seq_rt, e_seq_bk, e_seq_ct, e_nil, e_pass, e_brk, e_cnt, e_retN, e_raise, e_drop, e_drop1, e_ret, take_flat, e_ret_deep, e_ret_one, e_ret_none, e_if, e_if_t, e_if_f, e_set, e_set_deep, e_set_none, e_down_nil, e_wipe_nil, e_wipe, e_c, e_slot0, e_slotS, e_var, e_var1, e_rv_int, e_rv_str, e_rv_bl, e_rv_non, e_rv_lstD, e_rv_lstR, e_rv_lstS, e_rv_dicD, e_rv_dicR, e_rv_dicS, e_bin, e_bin1, e_one, e_tOf, e_toB, e_tNot, e_tNot1, e_tAnd, e_tOr, e_tAnd_t, e_tAnd_f, e_tOr_t, e_tOr_f, e_and, e_or, e_and_t, e_and_f, e_or_t, e_or_f, e_not, e_not1, e_neg, e_neg1, e_ife, e_ife_t, e_ife_f, e_aNil, e_aCons, e_aCons1, e_aCons2, e_tup, e_lst, e_tup1, e_lst1, e_src0, e_srcS, e_mv0, e_mvS, e_mvN, e_mvC, e_mvC0, e_add_i, e_add_s, e_add_l, e_sub, e_mod, e_fdv, e_mul, e_mul_s, e_pow18, e_lt, e_le, e_gt, e_ge, e_eq, e_ne, e_eq1, e_ne1, eqF_s, eqF_i, eqF_b, eqF_ln, eqF_rn, e_in_s, e_in_l, e_in_r, e_in_t, e_in_d, e_in1, e_rsB_f, e_rsB_t, e_pick_s, e_pick_i, e_pick_b, e_pick_l, e_pick_d, e_subs_l, e_subs_r, e_subs_t, e_subs_s, e_subs_d, e_subs1, e_subsS, e_oNone, e_oSome, e_oSome1, e_sl, e_sl1, e_sl2, e_sl_s, e_sl_l, e_sl_r, e_newL, e_newN, e_len_l, e_len_r, e_len_t, e_len_d, e_len_s, e_sum, e_all, e_any, e_m1, e_m11, e_startsw, e_strip, e_lstrip, e_split, e_join, e_iOf, e_it_l, e_it_r, e_it_t, e_it_s, e_range1, e_rg1, e_for, e_for1, e_comp, e_comp1, e_tTrue, e_step, e_step_t, e_step_f, e_step2, e_bind1, e_call, e_call1, e_call_s, e_call_i, e_call_b, e_call_n, e_call_l, e_call_d, e_isi_s, e_cut_hi, e_cut_lo, e_cut_mid, e_cut_last, e_cut_init, e_rv_rol, e_par, e_par2, e_par3, e_wh1_t, e_wh1_f, e_wh2_nx, e_wh2_ct, e_wh2_bk, e_wh2_rt, List.length_cons, List.length_map, List.length_nil, List.map_cons, List.map_nil, List.replicate_succ, List.replicate_zero, Nat.reduceSub, Nat.reduceAdd, Nat.reduceLT, Nat.reduceLeDiff, Nat.reduceEqDiff, List.set_cons_zero, List.set_cons_succ, List.cons_append, List.nil_append, List.append_nil, decide_true, decide_false, Bool.not_true, Bool.not_false, reduceCtorEq, eq_self, Nat.zero_add, Nat.add_zero, Nat.zero_lt_succ, Nat.lt_add_left_iff_pos, Nat.succ_pos]
    rfl
/-! ### the law -/
def pcs : List Tx := [[114, 101, 58], [32], [114, 101, 58, 32], [120], [114, 101], [58], [32, 32], [97, 98, 32, 99], [114], [101, 58]]
def E1 (S : Dat) (cs : List Int) (x5 x6 x7 x8 x9 x10 : Option (Dat × Kd)) : Sto := [some (S, .shr), some (.lst (cs.map .int), .deep), some (.int cs.sum, .deep), some (.str alph, .deep), some (.lst (pcs.map .str), .deep), x5, x6, x7, x8, x9, x10]
theorem okT_app {x y : Tx} (hx : okT x) (hy : okT y) : okT (x ++ y) := by
  unfold okT at *
  rw [List.all_append, hx, hy]
  rfl
theorem pcs_ok : ∀ p ∈ pcs, okT p ∧ p.length ≤ 4 := by
  unfold okT
  decide
theorem alph_ok : ∀ c ∈ alph, okT [c] := by
  unfold okT
  decide
/-- cells that a law may have -/
structure CellsOk (cs : List Int) : Prop where
  ne : 0 < cs.length
  le : cs.length ≤ 63
  bits : ∀ z ∈ cs, Builtin.Int.intBits z ≤ 1048576
theorem CellsOk.cell {cs : List Int} (h : CellsOk cs) {z : Int} (hz : z ∈ cs) : Builtin.Int.intBits z ≤ 2000000 := Nat.le_trans (h.bits z hz) (by decide)
theorem CellsOk.sum {cs : List Int} (h : CellsOk cs) : Builtin.Int.intBits cs.sum ≤ 2000000 := Nat.le_trans (bits_sum h.bits h.le) (by omega)
theorem b1E {S : Dat} {cs : List Int} (hc : CellsOk cs) {by_ at_ : Nat} (hb : by_ < 6) (ha : at_ < 9) {x8 x9 x10 : Option (Dat × Kd)} {k5 : Kd} {t : Tx} (ht : okT t) (hl : t.length ≤ 4 * at_) :
    ∃ t' x8' x9', okT t' ∧ t'.length ≤ 4 * (at_ + 1) ∧ b_law_1 (E1 S cs (some (.int by_, k5)) (some (.str t, .deep)) (some (.int at_, .shr)) x8 x9 x10) = .ok (.nx (E1 S cs (some (.int by_, k5)) (some (.str t', .deep)) (some (.int at_, .shr)) x8' x9' x10)) := by
  have hlen : (0 : Int) < (cs.length : Int) := by
    have := hc.ne
    omega
  have i0 : (0 : Int) ≤ ((at_ : Int) + (by_ : Int)) % (cs.length : Int) := Int.emod_nonneg _ (by omega)
  have i1 : ((at_ : Int) + (by_ : Int)) % (cs.length : Int) < (cs.length : Int) := Int.emod_lt_of_pos _ hlen
  obtain ⟨cell, _, hm, hd⟩ := dAt_map (e := Dat.int) i0 i1
  have b1 : Builtin.Int.intBits ((at_ : Int) + 7 * (by_ : Int)) ≤ 2000000 := bits_small (by omega)
  have h7 : cMul 7 (by_ : Int) = true := cMul_of (bits_small (by decide)) (bits_small (by omega)) (by decide)
  have hn := numE (a := cell) (hc.cell hm) b1 hc.sum
  generalize numL cell ((at_ : Int) + 7 * (by_ : Int)) cs.sum = num at hn
  have key : ∀ m : Int, 0 < m → m ≤ 10 → ∃ t', okT t' ∧ t'.length ≤ 4 * (at_ + 1) ∧ ∃ p, dAt (pcs.map .str) (num / 3 % m) = some (.str p) ∧ ∀ E : Sto, slot E 3 = some (.str alph, .deep) → slot E 6 = some (.str t, .deep) → slot E 8 = some (.int (num / 3), .deep) → slot E 9 = some (.str p, .deep) →
      fBin gAdd (fVar 6) (fIf (tOf (fBin gEq (fVar 9) (fC (.str [97, 98, 32, 99])))) (fBin gAdd (fBin gSubs (fVar 3) (fBin gMod (fBin gFdv (fVar 8) (fC (.int 10))) (fC (.int 26)))) (fC (.str [32]))) (fVar 9)) E = .ok ⟨.str t', false, [], some []⟩ := by
    intro m hm0 hm1
    have j0 : (0 : Int) ≤ num / 3 % m := Int.emod_nonneg _ (by omega)
    have j1 : num / 3 % m < (pcs.length : Int) := by
      have := Int.emod_lt_of_pos (num / 3) hm0
      have e : (pcs.length : Int) = 10 := rfl
      omega
    obtain ⟨p, _, hp, hpd⟩ := dAt_map (e := Dat.str) j0 j1
    obtain ⟨p1, p2⟩ := pcs_ok p hp
    by_cases h5 : p = [97, 98, 32, 99]
    · have l0 : (0 : Int) ≤ num / 3 / 10 % 26 := Int.emod_nonneg _ (by decide)
      have l1 : num / 3 / 10 % 26 < 26 := Int.emod_lt_of_pos _ (by decide)
      have la : (alph.length : Int) = 26 := rfl
      have hx : (num / 3 / 10 % 26).toNat < alph.length := by
        have e : alph.length = 26 := rfl
        omega
      have e1 : (ixN alph.length (num / 3 / 10 % 26)).bind (fun j => alph[j]?) = some alph[(num / 3 / 10 % 26).toNat] := by
        unfold ixN
        rw [if_pos l0, if_pos (by omega)]
        exact List.getElem?_eq_getElem hx
      have hmem := List.getElem_mem hx
      generalize alph[(num / 3 / 10 % 26).toNat] = c at e1 hmem
      have a1 : ([c] : Tx).length + ([32] : Tx).length ≤ 1000000 := by simp
      have a2 : t.length + ([c, 32] : Tx).length ≤ 1000000 := by simp; omega
      refine ⟨t ++ [c, 32], okT_app ht (okT_app (x := [c]) (y := [32]) (alph_ok c hmem) (by unfold okT; decide)), by simp; omega, p, hpd, fun E h3 h6 h8 h9 => ?_⟩
      have z1 : (0 : Int) < 10 := by decide
      have z2 : (10 : Int) < 1073741824 := by decide
      have z3 : (0 : Int) < 26 := by decide
      simp only [e_bok, e_bexc, fin_rt, fin_nx, fin_exc, run1, run2, run3, run4, e_seq, e_seq_nx, e_seq_rt, e_seq_bk, e_seq_ct, e_nil, e_pass, e_brk, e_cnt, e_retN, e_raise, e_drop, e_drop1, e_ret, take_flat, e_ret_deep, e_ret_one, e_ret_none, e_if, e_if_t, e_if_f, e_set, e_set_deep, e_set_none, e_down_nil, e_wipe_nil, e_wipe, e_c, e_slot0, e_slotS, e_var, e_var1, e_rv_int, e_rv_str, e_rv_bl, e_rv_non, e_rv_lstD, e_rv_lstR, e_rv_lstS, e_rv_dicD, e_rv_dicR, e_rv_dicS, e_bin, e_bin1, e_one, e_tOf, e_toB, e_tNot, e_tNot1, e_tAnd, e_tOr, e_tAnd_t, e_tAnd_f, e_tOr_t, e_tOr_f, e_and, e_or, e_and_t, e_and_f, e_or_t, e_or_f, e_not, e_not1, e_neg, e_neg1, e_ife, e_ife_t, e_ife_f, e_aNil, e_aCons, e_aCons1, e_aCons2, e_tup, e_lst, e_tup1, e_lst1, e_src0, e_srcS, e_mv0, e_mvS, e_mvN, e_mvC, e_mvC0, e_add_i, e_add_s, e_add_l, e_sub, e_mod, e_fdv, e_mul, e_mul_s, e_pow18, e_lt, e_le, e_gt, e_ge, e_eq, e_ne, e_eq1, e_ne1, eqF_s, eqF_i, eqF_b, eqF_ln, eqF_rn, e_in_s, e_in_l, e_in_r, e_in_t, e_in_d, e_in1, e_rsB_f, e_rsB_t, e_pick_s, e_pick_i, e_pick_b, e_pick_l, e_pick_d, e_subs_l, e_subs_r, e_subs_t, e_subs_s, e_subs_d, e_subs1, e_subsS, e_oNone, e_oSome, e_oSome1, e_sl, e_sl1, e_sl2, e_sl_s, e_sl_l, e_sl_r, e_newL, e_newN, e_len_l, e_len_r, e_len_t, e_len_d, e_len_s, e_sum, e_all, e_any, e_m1, e_m11, e_startsw, e_strip, e_lstrip, e_split, e_join, e_iOf, e_it_l, e_it_r, e_it_t, e_it_s, e_range1, e_rg1, e_for, e_for1, e_comp, e_comp1, e_tTrue, e_step, e_step_t, e_step_f, e_step2, e_bind1, e_call, e_call1, e_call_s, e_call_i, e_call_b, e_call_n, e_call_l, e_call_d, e_isi_s, e_cut_hi, e_cut_lo, e_cut_mid, e_cut_last, e_cut_init, e_rv_rol, e_par, e_par2, e_par3, e_wh1_t, e_wh1_f, e_wh2_nx, e_wh2_ct, e_wh2_bk, e_wh2_rt, List.length_cons, List.length_map, List.length_nil, List.map_cons, List.map_nil, List.replicate_succ, List.replicate_zero, Nat.reduceSub, Nat.reduceAdd, Nat.reduceLT, Nat.reduceLeDiff, Nat.reduceEqDiff, List.set_cons_zero, List.set_cons_succ, List.cons_append, List.nil_append, List.append_nil, decide_true, decide_false, Bool.not_true, Bool.not_false, reduceCtorEq, eq_self, Nat.zero_add, Nat.add_zero, Nat.zero_lt_succ, Nat.lt_add_left_iff_pos, Nat.succ_pos, h3, h6, h8, h9, h5, z1, z2, z3, e1, (by decide : alph.length ≤ 1000000), e_add_s (rt := false) (rt' := false) (s := []) (s' := []) (m := some []) (m' := some []) a1, e_add_s (rt := false) (rt' := false) (s := []) (s' := []) (m := some []) (m' := some []) a2]
    · have a2 : t.length + p.length ≤ 1000000 := by omega
      refine ⟨t ++ p, okT_app ht p1, by simp; omega, p, hpd, fun E h3 h6 h8 h9 => ?_⟩
      simp only [e_bok, e_bexc, fin_rt, fin_nx, fin_exc, run1, run2, run3, run4, e_seq, e_seq_nx, e_seq_rt, e_seq_bk, e_seq_ct, e_nil, e_pass, e_brk, e_cnt, e_retN, e_raise, e_drop, e_drop1, e_ret, take_flat, e_ret_deep, e_ret_one, e_ret_none, e_if, e_if_t, e_if_f, e_set, e_set_deep, e_set_none, e_down_nil, e_wipe_nil, e_wipe, e_c, e_slot0, e_slotS, e_var, e_var1, e_rv_int, e_rv_str, e_rv_bl, e_rv_non, e_rv_lstD, e_rv_lstR, e_rv_lstS, e_rv_dicD, e_rv_dicR, e_rv_dicS, e_bin, e_bin1, e_one, e_tOf, e_toB, e_tNot, e_tNot1, e_tAnd, e_tOr, e_tAnd_t, e_tAnd_f, e_tOr_t, e_tOr_f, e_and, e_or, e_and_t, e_and_f, e_or_t, e_or_f, e_not, e_not1, e_neg, e_neg1, e_ife, e_ife_t, e_ife_f, e_aNil, e_aCons, e_aCons1, e_aCons2, e_tup, e_lst, e_tup1, e_lst1, e_src0, e_srcS, e_mv0, e_mvS, e_mvN, e_mvC, e_mvC0, e_add_i, e_add_s, e_add_l, e_sub, e_mod, e_fdv, e_mul, e_mul_s, e_pow18, e_lt, e_le, e_gt, e_ge, e_eq, e_ne, e_eq1, e_ne1, eqF_s, eqF_i, eqF_b, eqF_ln, eqF_rn, e_in_s, e_in_l, e_in_r, e_in_t, e_in_d, e_in1, e_rsB_f, e_rsB_t, e_pick_s, e_pick_i, e_pick_b, e_pick_l, e_pick_d, e_subs_l, e_subs_r, e_subs_t, e_subs_s, e_subs_d, e_subs1, e_subsS, e_oNone, e_oSome, e_oSome1, e_sl, e_sl1, e_sl2, e_sl_s, e_sl_l, e_sl_r, e_newL, e_newN, e_len_l, e_len_r, e_len_t, e_len_d, e_len_s, e_sum, e_all, e_any, e_m1, e_m11, e_startsw, e_strip, e_lstrip, e_split, e_join, e_iOf, e_it_l, e_it_r, e_it_t, e_it_s, e_range1, e_rg1, e_for, e_for1, e_comp, e_comp1, e_tTrue, e_step, e_step_t, e_step_f, e_step2, e_bind1, e_call, e_call1, e_call_s, e_call_i, e_call_b, e_call_n, e_call_l, e_call_d, e_isi_s, e_cut_hi, e_cut_lo, e_cut_mid, e_cut_last, e_cut_init, e_rv_rol, e_par, e_par2, e_par3, e_wh1_t, e_wh1_f, e_wh2_nx, e_wh2_ct, e_wh2_bk, e_wh2_rt, List.length_cons, List.length_map, List.length_nil, List.map_cons, List.map_nil, List.replicate_succ, List.replicate_zero, Nat.reduceSub, Nat.reduceAdd, Nat.reduceLT, Nat.reduceLeDiff, Nat.reduceEqDiff, List.set_cons_zero, List.set_cons_succ, List.cons_append, List.nil_append, List.append_nil, decide_true, decide_false, Bool.not_true, Bool.not_false, reduceCtorEq, eq_self, Nat.zero_add, Nat.add_zero, Nat.zero_lt_succ, Nat.lt_add_left_iff_pos, Nat.succ_pos, h3, h6, h8, h9, h5, a2]
  have z1 : (0 : Int) < 3 := by decide
  have z2 : (3 : Int) < 1073741824 := by decide
  have z3 : (0 : Int) < 10 := by decide
  have z4 : (0 : Int) < 4 := by decide
  have z5 : (0 : Int) < 2 := by decide
  unfold b_law_1 E1
  by_cases h2 : (by_ : Int) % 2 = 0
  · obtain ⟨t', h1, h3, p, h4, h5⟩ := key 10 (by decide) (by decide)
    refine ⟨t', some (.int (num / 3), .deep), some (.str p, .deep), h1, h3, ?_⟩
    have h6 := h5 (E1 S cs (some (.int by_, k5)) (some (.str t, .deep)) (some (.int at_, .shr)) (some (.int (num / 3), .deep)) (some (.str p, .deep)) x10) rfl rfl rfl rfl
    unfold E1 at h6
    simp only [e_bok, e_bexc, fin_rt, fin_nx, fin_exc, run1, run2, run3, run4, e_seq, e_seq_nx, e_seq_rt, e_seq_bk, e_seq_ct, e_nil, e_pass, e_brk, e_cnt, e_retN, e_raise, e_drop, e_drop1, e_ret, take_flat, e_ret_deep, e_ret_one, e_ret_none, e_if, e_if_t, e_if_f, e_set, e_set_deep, e_set_none, e_down_nil, e_wipe_nil, e_wipe, e_c, e_slot0, e_slotS, e_var, e_var1, e_rv_int, e_rv_str, e_rv_bl, e_rv_non, e_rv_lstD, e_rv_lstR, e_rv_lstS, e_rv_dicD, e_rv_dicR, e_rv_dicS, e_bin, e_bin1, e_one, e_tOf, e_toB, e_tNot, e_tNot1, e_tAnd, e_tOr, e_tAnd_t, e_tAnd_f, e_tOr_t, e_tOr_f, e_and, e_or, e_and_t, e_and_f, e_or_t, e_or_f, e_not, e_not1, e_neg, e_neg1, e_ife, e_ife_t, e_ife_f, e_aNil, e_aCons, e_aCons1, e_aCons2, e_tup, e_lst, e_tup1, e_lst1, e_src0, e_srcS, e_mv0, e_mvS, e_mvN, e_mvC, e_mvC0, e_add_i, e_add_s, e_add_l, e_sub, e_mod, e_fdv, e_mul, e_mul_s, e_pow18, e_lt, e_le, e_gt, e_ge, e_eq, e_ne, e_eq1, e_ne1, eqF_s, eqF_i, eqF_b, eqF_ln, eqF_rn, e_in_s, e_in_l, e_in_r, e_in_t, e_in_d, e_in1, e_rsB_f, e_rsB_t, e_pick_s, e_pick_i, e_pick_b, e_pick_l, e_pick_d, e_subs_l, e_subs_r, e_subs_t, e_subs_s, e_subs_d, e_subs1, e_subsS, e_oNone, e_oSome, e_oSome1, e_sl, e_sl1, e_sl2, e_sl_s, e_sl_l, e_sl_r, e_newL, e_newN, e_len_l, e_len_r, e_len_t, e_len_d, e_len_s, e_sum, e_all, e_any, e_m1, e_m11, e_startsw, e_strip, e_lstrip, e_split, e_join, e_iOf, e_it_l, e_it_r, e_it_t, e_it_s, e_range1, e_rg1, e_for, e_for1, e_comp, e_comp1, e_tTrue, e_step, e_step_t, e_step_f, e_step2, e_bind1, e_call, e_call1, e_call_s, e_call_i, e_call_b, e_call_n, e_call_l, e_call_d, e_isi_s, e_cut_hi, e_cut_lo, e_cut_mid, e_cut_last, e_cut_init, e_rv_rol, e_par, e_par2, e_par3, e_wh1_t, e_wh1_f, e_wh2_nx, e_wh2_ct, e_wh2_bk, e_wh2_rt, List.length_cons, List.length_map, List.length_nil, List.map_cons, List.map_nil, List.replicate_succ, List.replicate_zero, Nat.reduceSub, Nat.reduceAdd, Nat.reduceLT, Nat.reduceLeDiff, Nat.reduceEqDiff, List.set_cons_zero, List.set_cons_succ, List.cons_append, List.nil_append, List.append_nil, decide_true, decide_false, Bool.not_true, Bool.not_false, reduceCtorEq, eq_self, Nat.zero_add, Nat.add_zero, Nat.zero_lt_succ, Nat.lt_add_left_iff_pos, Nat.succ_pos, ↓h6, h7, hlen, hd, hn, z1, z2, z3, z5, h2, h4]
  · obtain ⟨t', h1, h3, p, h4, h5⟩ := key 4 (by decide) (by decide)
    refine ⟨t', some (.int (num / 3), .deep), some (.str p, .deep), h1, h3, ?_⟩
    have h6 := h5 (E1 S cs (some (.int by_, k5)) (some (.str t, .deep)) (some (.int at_, .shr)) (some (.int (num / 3), .deep)) (some (.str p, .deep)) x10) rfl rfl rfl rfl
    unfold E1 at h6
    simp only [e_bok, e_bexc, fin_rt, fin_nx, fin_exc, run1, run2, run3, run4, e_seq, e_seq_nx, e_seq_rt, e_seq_bk, e_seq_ct, e_nil, e_pass, e_brk, e_cnt, e_retN, e_raise, e_drop, e_drop1, e_ret, take_flat, e_ret_deep, e_ret_one, e_ret_none, e_if, e_if_t, e_if_f, e_set, e_set_deep, e_set_none, e_down_nil, e_wipe_nil, e_wipe, e_c, e_slot0, e_slotS, e_var, e_var1, e_rv_int, e_rv_str, e_rv_bl, e_rv_non, e_rv_lstD, e_rv_lstR, e_rv_lstS, e_rv_dicD, e_rv_dicR, e_rv_dicS, e_bin, e_bin1, e_one, e_tOf, e_toB, e_tNot, e_tNot1, e_tAnd, e_tOr, e_tAnd_t, e_tAnd_f, e_tOr_t, e_tOr_f, e_and, e_or, e_and_t, e_and_f, e_or_t, e_or_f, e_not, e_not1, e_neg, e_neg1, e_ife, e_ife_t, e_ife_f, e_aNil, e_aCons, e_aCons1, e_aCons2, e_tup, e_lst, e_tup1, e_lst1, e_src0, e_srcS, e_mv0, e_mvS, e_mvN, e_mvC, e_mvC0, e_add_i, e_add_s, e_add_l, e_sub, e_mod, e_fdv, e_mul, e_mul_s, e_pow18, e_lt, e_le, e_gt, e_ge, e_eq, e_ne, e_eq1, e_ne1, eqF_s, eqF_i, eqF_b, eqF_ln, eqF_rn, e_in_s, e_in_l, e_in_r, e_in_t, e_in_d, e_in1, e_rsB_f, e_rsB_t, e_pick_s, e_pick_i, e_pick_b, e_pick_l, e_pick_d, e_subs_l, e_subs_r, e_subs_t, e_subs_s, e_subs_d, e_subs1, e_subsS, e_oNone, e_oSome, e_oSome1, e_sl, e_sl1, e_sl2, e_sl_s, e_sl_l, e_sl_r, e_newL, e_newN, e_len_l, e_len_r, e_len_t, e_len_d, e_len_s, e_sum, e_all, e_any, e_m1, e_m11, e_startsw, e_strip, e_lstrip, e_split, e_join, e_iOf, e_it_l, e_it_r, e_it_t, e_it_s, e_range1, e_rg1, e_for, e_for1, e_comp, e_comp1, e_tTrue, e_step, e_step_t, e_step_f, e_step2, e_bind1, e_call, e_call1, e_call_s, e_call_i, e_call_b, e_call_n, e_call_l, e_call_d, e_isi_s, e_cut_hi, e_cut_lo, e_cut_mid, e_cut_last, e_cut_init, e_rv_rol, e_par, e_par2, e_par3, e_wh1_t, e_wh1_f, e_wh2_nx, e_wh2_ct, e_wh2_bk, e_wh2_rt, List.length_cons, List.length_map, List.length_nil, List.map_cons, List.map_nil, List.replicate_succ, List.replicate_zero, Nat.reduceSub, Nat.reduceAdd, Nat.reduceLT, Nat.reduceLeDiff, Nat.reduceEqDiff, List.set_cons_zero, List.set_cons_succ, List.cons_append, List.nil_append, List.append_nil, decide_true, decide_false, Bool.not_true, Bool.not_false, reduceCtorEq, eq_self, Nat.zero_add, Nat.add_zero, Nat.zero_lt_succ, Nat.lt_add_left_iff_pos, Nat.succ_pos, ↓h6, h7, hlen, hd, hn, z1, z2, z4, z5, h2, h4]
theorem okT_take {x : Tx} (n : Nat) (h : okT x) : okT (x.take n) := by
  unfold okT at *
  rw [List.all_eq_true] at *
  exact fun c hc => h c (List.mem_of_mem_take hc)
theorem okT_bare {x : Tx} (h : x.length < 1000) (hx : okT x) : okT (bareL x) := by
  unfold okT at *
  rw [List.all_eq_true] at *
  intro c hc
  rcases (bareL_ok h).2.2.2 c hc with q | q
  · exact hx c q
  · subst q
    decide
theorem b2E {S : Dat} {cs : List Int} (hc : CellsOk cs) {by_ : Nat} (hb : by_ < 6) {x6 x7 x8 x9 x10 : Option (Dat × Kd)} {k5 : Kd} :
    ∃ x6' x7' x8' x9' x10', b_law_2 (E1 S cs (some (.int by_, k5)) x6 x7 x8 x9 x10) = .ok (.nx (E1 S cs (some (.int by_, k5)) x6' x7' x8' x9' x10')) := by
  have hn := numE (a := cs.sum) (b := (by_ : Int) + 1) (c := 3) hc.sum (bits_small (by omega)) (bits_small (by decide))
  generalize numL cs.sum ((by_ : Int) + 1) 3 = num at hn
  have j0 : (0 : Int) ≤ num / 3 % 9 := Int.emod_nonneg _ (by decide)
  have j1 : num / 3 % 9 < 9 := Int.emod_lt_of_pos _ (by decide)
  generalize hk : num / 3 % 9 = k at j0 j1
  have hinv := forGo_inv (T := .one 7) (g := b_law_1) (fun ds E => ∃ (a m : Nat) (t : Tx) (x7 x8 x9 x10 : Option (Dat × Kd)), ds = (List.range' a m).map (fun (i : Nat) => Dat.int i) ∧ a + m = k.toNat ∧ okT t ∧ t.length ≤ 4 * a ∧ E = E1 S cs (some (.int by_, k5)) (some (.str t, .deep)) x7 x8 x9 x10)
    (ds := (List.range k.toNat).map (fun (i : Nat) => Dat.int i)) (E := E1 S cs (some (.int by_, k5)) (some (.str [], .deep)) x7 x8 x9 x10) ⟨0, k.toNat, [], x7, x8, x9, x10, by rw [List.range_eq_range'], by omega, rfl, by simp, rfl⟩ ?st
  case st =>
    rintro d rest E ⟨a, m, t, x7, x8, x9, x10, e1, e2, e3, e4, rfl⟩
    cases m with
    | zero => cases e1
    | succ m =>
      rw [List.range'_succ] at e1
      injection e1 with ed er
      subst ed
      obtain ⟨t', x8', x9', h1, h2, h3⟩ := b1E (S := S) (x8 := x8) (x9 := x9) (x10 := x10) (k5 := k5) hc hb (at_ := a) (by omega) e3 e4
      exact ⟨_, _, rfl, .inl h3, a + 1, m, t', _, _, _, _, er, by omega, h1, h2, rfl⟩
  obtain ⟨E', h1, a, m, t, y7, y8, y9, y10, e1, e2, e3, e4, rfl⟩ := hinv
  have hm : m = 0 := by
    cases m with
    | zero => rfl
    | succ m =>
      rw [List.range'_succ] at e1
      cases e1
  have hl : t.length ≤ 1000000 := by omega
  have l1 : (t.take (12 : Int).toNat).length ≤ 12 := by
    rw [List.length_take]
    exact Nat.min_le_left _ _
  have ok1 := okT_take (12 : Int).toNat e3
  generalize hu : t.take (12 : Int).toNat = u at l1 ok1
  have q1 := bareE l1 ok1
  have q2 := lawBareE l1
  obtain ⟨_, _, l2, _⟩ := bareL_ok (x := u) (by omega)
  have q3 := bareE (x := bareL u) (by omega) (okT_bare (by omega) ok1)
  rw [bareL_idem (by omega)] at q3
  refine ⟨some (.str u, .deep), y7, y8, y9, some (.str (bareL u), .deep), ?_⟩
  have z1 : (0 : Int) < 3 := by decide
  have z2 : (3 : Int) < 1073741824 := by decide
  have z3 : (0 : Int) < 9 := by decide
  have z4 : (0 : Int) ≤ 12 := by decide
  have hs : decide ("str" = "str") = true := by decide
  unfold b_law_2
  unfold E1 at h1 ⊢
  simp only [e_bok, e_bexc, fin_rt, fin_nx, fin_exc, run1, run2, run3, run4, e_seq, e_seq_nx, e_seq_rt, e_seq_bk, e_seq_ct, e_nil, e_pass, e_brk, e_cnt, e_retN, e_raise, e_drop, e_drop1, e_ret, take_flat, e_ret_deep, e_ret_one, e_ret_none, e_if, e_if_t, e_if_f, e_set, e_set_deep, e_set_none, e_down_nil, e_wipe_nil, e_wipe, e_c, e_slot0, e_slotS, e_var, e_var1, e_rv_int, e_rv_str, e_rv_bl, e_rv_non, e_rv_lstD, e_rv_lstR, e_rv_lstS, e_rv_dicD, e_rv_dicR, e_rv_dicS, e_bin, e_bin1, e_one, e_tOf, e_toB, e_tNot, e_tNot1, e_tAnd, e_tOr, e_tAnd_t, e_tAnd_f, e_tOr_t, e_tOr_f, e_and, e_or, e_and_t, e_and_f, e_or_t, e_or_f, e_not, e_not1, e_neg, e_neg1, e_ife, e_ife_t, e_ife_f, e_aNil, e_aCons, e_aCons1, e_aCons2, e_tup, e_lst, e_tup1, e_lst1, e_src0, e_srcS, e_mv0, e_mvS, e_mvN, e_mvC, e_mvC0, e_add_i, e_add_s, e_add_l, e_sub, e_mod, e_fdv, e_mul, e_mul_s, e_pow18, e_lt, e_le, e_gt, e_ge, e_eq, e_ne, e_eq1, e_ne1, eqF_s, eqF_i, eqF_b, eqF_ln, eqF_rn, e_in_s, e_in_l, e_in_r, e_in_t, e_in_d, e_in1, e_rsB_f, e_rsB_t, e_pick_s, e_pick_i, e_pick_b, e_pick_l, e_pick_d, e_subs_l, e_subs_r, e_subs_t, e_subs_s, e_subs_d, e_subs1, e_subsS, e_oNone, e_oSome, e_oSome1, e_sl, e_sl1, e_sl2, e_sl_s, e_sl_l, e_sl_r, e_newL, e_newN, e_len_l, e_len_r, e_len_t, e_len_d, e_len_s, e_sum, e_all, e_any, e_m1, e_m11, e_startsw, e_strip, e_lstrip, e_split, e_join, e_iOf, e_it_l, e_it_r, e_it_t, e_it_s, e_range1, e_rg1, e_for, e_for1, e_comp, e_comp1, e_tTrue, e_step, e_step_t, e_step_f, e_step2, e_bind1, e_call, e_call1, e_call_s, e_call_i, e_call_b, e_call_n, e_call_l, e_call_d, e_isi_s, e_cut_hi, e_cut_lo, e_cut_mid, e_cut_last, e_cut_init, e_rv_rol, e_par, e_par2, e_par3, e_wh1_t, e_wh1_f, e_wh2_nx, e_wh2_ct, e_wh2_bk, e_wh2_rt, List.length_cons, List.length_map, List.length_nil, List.map_cons, List.map_nil, List.replicate_succ, List.replicate_zero, Nat.reduceSub, Nat.reduceAdd, Nat.reduceLT, Nat.reduceLeDiff, Nat.reduceEqDiff, List.set_cons_zero, List.set_cons_succ, List.cons_append, List.nil_append, List.append_nil, decide_true, decide_false, Bool.not_true, Bool.not_false, reduceCtorEq, eq_self, Nat.zero_add, Nat.add_zero, Nat.zero_lt_succ, Nat.lt_add_left_iff_pos, Nat.succ_pos, hn, z1, z2, z3, hk, e_rg1 (rt := false) (s := []) (m := some []) (j := k) (by omega), h1, hl, z4, hu, q1, q2, q3, hs, eq_self]
theorem law_true : LawTrue c_law := by
  intro ns hl hb
  refine ⟨true, ?_⟩
  obtain ⟨cs, hc, hE⟩ : ∃ cs, CellsOk cs ∧ ∀ E : Sto, slot E 0 = some (.rol (ns.map .int), .shr) → fIf (tOf (fBin gNe (fVar 0) (fLst aNil))) (fSl (fVar 0) oNone (oSome (fC (.int 63)))) (fLst (aCons (fC (.int 5)) aNil)) E = .ok ⟨.lst (cs.map .int), true, [], some []⟩ := by
    cases ns with
    | nil =>
      refine ⟨[5], ⟨by decide, by decide, fun z hz => ?_⟩, fun E h => ?_⟩
      · have e : z = 5 := by simpa using hz
        subst e
        exact bits_lit (Nat.lt_trans (show (5 : Int).natAbs < 2 ^ 3 by decide) (Nat.pow_lt_pow_right (by decide) (by decide)))
      · have e : Dat.rol (([] : List Int).map .int) = .rol [] := rfl
        have l0 : (0 : Nat) ≤ 1000000 := by decide
        have l1 : (1 : Nat) ≤ 1000000 := by decide
        have l2 : (0 : Nat) = 0 := rfl
        have e2 : rVar 0 (.rol []) .shr = ⟨.rol [], false, [], some []⟩ := rfl
        simp only [e_bok, e_bexc, fin_rt, fin_nx, fin_exc, run1, run2, run3, run4, e_seq, e_seq_nx, e_seq_rt, e_seq_bk, e_seq_ct, e_nil, e_pass, e_brk, e_cnt, e_retN, e_raise, e_drop, e_drop1, e_ret, take_flat, e_ret_deep, e_ret_one, e_ret_none, e_if, e_if_t, e_if_f, e_set, e_set_deep, e_set_none, e_down_nil, e_wipe_nil, e_wipe, e_c, e_slot0, e_slotS, e_var, e_var1, e_rv_int, e_rv_str, e_rv_bl, e_rv_non, e_rv_lstD, e_rv_lstR, e_rv_lstS, e_rv_dicD, e_rv_dicR, e_rv_dicS, e_bin, e_bin1, e_one, e_tOf, e_toB, e_tNot, e_tNot1, e_tAnd, e_tOr, e_tAnd_t, e_tAnd_f, e_tOr_t, e_tOr_f, e_and, e_or, e_and_t, e_and_f, e_or_t, e_or_f, e_not, e_not1, e_neg, e_neg1, e_ife, e_ife_t, e_ife_f, e_aNil, e_aCons, e_aCons1, e_aCons2, e_tup, e_lst, e_tup1, e_lst1, e_src0, e_srcS, e_mv0, e_mvS, e_mvN, e_mvC, e_mvC0, e_add_i, e_add_s, e_add_l, e_sub, e_mod, e_fdv, e_mul, e_mul_s, e_pow18, e_lt, e_le, e_gt, e_ge, e_eq, e_ne, e_eq1, e_ne1, eqF_s, eqF_i, eqF_b, eqF_ln, eqF_rn, e_in_s, e_in_l, e_in_r, e_in_t, e_in_d, e_in1, e_rsB_f, e_rsB_t, e_pick_s, e_pick_i, e_pick_b, e_pick_l, e_pick_d, e_subs_l, e_subs_r, e_subs_t, e_subs_s, e_subs_d, e_subs1, e_subsS, e_oNone, e_oSome, e_oSome1, e_sl, e_sl1, e_sl2, e_sl_s, e_sl_l, e_sl_r, e_newL, e_newN, e_len_l, e_len_r, e_len_t, e_len_d, e_len_s, e_sum, e_all, e_any, e_m1, e_m11, e_startsw, e_strip, e_lstrip, e_split, e_join, e_iOf, e_it_l, e_it_r, e_it_t, e_it_s, e_range1, e_rg1, e_for, e_for1, e_comp, e_comp1, e_tTrue, e_step, e_step_t, e_step_f, e_step2, e_bind1, e_call, e_call1, e_call_s, e_call_i, e_call_b, e_call_n, e_call_l, e_call_d, e_isi_s, e_cut_hi, e_cut_lo, e_cut_mid, e_cut_last, e_cut_init, e_rv_rol, e_par, e_par2, e_par3, e_wh1_t, e_wh1_f, e_wh2_nx, e_wh2_ct, e_wh2_bk, e_wh2_rt, List.length_cons, List.length_map, List.length_nil, List.map_cons, List.map_nil, List.replicate_succ, List.replicate_zero, Nat.reduceSub, Nat.reduceAdd, Nat.reduceLT, Nat.reduceLeDiff, Nat.reduceEqDiff, List.set_cons_zero, List.set_cons_succ, List.cons_append, List.nil_append, List.append_nil, decide_true, decide_false, Bool.not_true, Bool.not_false, reduceCtorEq, eq_self, Nat.zero_add, Nat.add_zero, Nat.zero_lt_succ, Nat.lt_add_left_iff_pos, Nat.succ_pos, h, l0, l1, l2, e2]
    | cons n ns =>
      refine ⟨(n :: ns).take 63, ⟨by simp, by simp; omega, fun z hz => hb z (List.mem_of_mem_take hz)⟩, fun E h => ?_⟩
      have l0 : (0 : Nat) ≤ 1000000 := by decide
      have l1 : (n :: ns).length ≤ 1000000 := by omega
      have l2 : ¬ (n :: ns).length = 0 := by simp
      have l3 : ((n :: ns).map Dat.int).take (63 : Int).toNat = ((n :: ns).take 63).map Dat.int := by
        rw [List.map_take]
        rfl
      have l4 : (0 : Int) ≤ 63 := by decide
      generalize n :: ns = ms at h l1 l2 l3
      simp only [e_bok, e_bexc, fin_rt, fin_nx, fin_exc, run1, run2, run3, run4, e_seq, e_seq_nx, e_seq_rt, e_seq_bk, e_seq_ct, e_nil, e_pass, e_brk, e_cnt, e_retN, e_raise, e_drop, e_drop1, e_ret, take_flat, e_ret_deep, e_ret_one, e_ret_none, e_if, e_if_t, e_if_f, e_set, e_set_deep, e_set_none, e_down_nil, e_wipe_nil, e_wipe, e_c, e_slot0, e_slotS, e_var, e_var1, e_rv_int, e_rv_str, e_rv_bl, e_rv_non, e_rv_lstD, e_rv_lstR, e_rv_lstS, e_rv_dicD, e_rv_dicR, e_rv_dicS, e_bin, e_bin1, e_one, e_tOf, e_toB, e_tNot, e_tNot1, e_tAnd, e_tOr, e_tAnd_t, e_tAnd_f, e_tOr_t, e_tOr_f, e_and, e_or, e_and_t, e_and_f, e_or_t, e_or_f, e_not, e_not1, e_neg, e_neg1, e_ife, e_ife_t, e_ife_f, e_aNil, e_aCons, e_aCons1, e_aCons2, e_tup, e_lst, e_tup1, e_lst1, e_src0, e_srcS, e_mv0, e_mvS, e_mvN, e_mvC, e_mvC0, e_add_i, e_add_s, e_add_l, e_sub, e_mod, e_fdv, e_mul, e_mul_s, e_pow18, e_lt, e_le, e_gt, e_ge, e_eq, e_ne, e_eq1, e_ne1, eqF_s, eqF_i, eqF_b, eqF_ln, eqF_rn, e_in_s, e_in_l, e_in_r, e_in_t, e_in_d, e_in1, e_rsB_f, e_rsB_t, e_pick_s, e_pick_i, e_pick_b, e_pick_l, e_pick_d, e_subs_l, e_subs_r, e_subs_t, e_subs_s, e_subs_d, e_subs1, e_subsS, e_oNone, e_oSome, e_oSome1, e_sl, e_sl1, e_sl2, e_sl_s, e_sl_l, e_sl_r, e_newL, e_newN, e_len_l, e_len_r, e_len_t, e_len_d, e_len_s, e_sum, e_all, e_any, e_m1, e_m11, e_startsw, e_strip, e_lstrip, e_split, e_join, e_iOf, e_it_l, e_it_r, e_it_t, e_it_s, e_range1, e_rg1, e_for, e_for1, e_comp, e_comp1, e_tTrue, e_step, e_step_t, e_step_f, e_step2, e_bind1, e_call, e_call1, e_call_s, e_call_i, e_call_b, e_call_n, e_call_l, e_call_d, e_isi_s, e_cut_hi, e_cut_lo, e_cut_mid, e_cut_last, e_cut_init, e_rv_rol, e_par, e_par2, e_par3, e_wh1_t, e_wh1_f, e_wh2_nx, e_wh2_ct, e_wh2_bk, e_wh2_rt, List.length_cons, List.length_map, List.length_nil, List.map_cons, List.map_nil, List.replicate_succ, List.replicate_zero, Nat.reduceSub, Nat.reduceAdd, Nat.reduceLT, Nat.reduceLeDiff, Nat.reduceEqDiff, List.set_cons_zero, List.set_cons_succ, List.cons_append, List.nil_append, List.append_nil, decide_true, decide_false, Bool.not_true, Bool.not_false, reduceCtorEq, eq_self, Nat.zero_add, Nat.add_zero, Nat.zero_lt_succ, Nat.lt_add_left_iff_pos, Nat.succ_pos, h, l0, l1, l2, l3, l4, e_newL (flat_ints _)]
  unfold c_law g_law
  have r6 : -1000000 ≤ (6 : Int) ∧ (6 : Int) ≤ 1000000 := by decide
  have hinv := forGo_inv (T := .one 5) (g := b_law_2) (fun ds E => ∃ (a m : Nat) (x5 x6 x7 x8 x9 x10 : Option (Dat × Kd)), ds = (List.range' a m).map (fun (i : Nat) => Dat.int i) ∧ a + m = 6 ∧ E = E1 (.rol (ns.map .int)) cs x5 x6 x7 x8 x9 x10)
    (ds := (List.range (6 : Int).toNat).map (fun (i : Nat) => Dat.int i)) (E := E1 (.rol (ns.map .int)) cs none none none none none none) ⟨0, 6, none, none, none, none, none, none, by rw [List.range_eq_range']; rfl, rfl, rfl⟩ ?st
  case st =>
    rintro d rest E ⟨a, m, x5, x6, x7, x8, x9, x10, e1, e2, rfl⟩
    cases m with
    | zero => cases e1
    | succ m =>
      rw [List.range'_succ] at e1
      injection e1 with ed er
      subst ed
      obtain ⟨y6, y7, y8, y9, y10, h3⟩ := b2E (S := .rol (ns.map .int)) (x6 := x6) (x7 := x7) (x8 := x8) (x9 := x9) (x10 := x10) (k5 := .shr) hc (by_ := a) (by omega)
      exact ⟨_, _, rfl, .inl h3, a + 1, m, _, _, _, _, _, _, er, by omega, rfl⟩
  obtain ⟨E', h1, a, m, x5, x6, x7, x8, x9, x10, _, _, rfl⟩ := hinv
  have al : [97, 98, 99, 100, 101, 102, 103, 104, 105, 106, 107, 108, 109, 110, 111, 112, 113, 114, 115, 116, 117, 118, 119, 120, 121, 122] = alph := rfl
  have pl : [Dat.str [114, 101, 58], .str [32], .str [114, 101, 58, 32], .str [120], .str [114, 101], .str [58], .str [32, 32], .str [97, 98, 32, 99], .str [114], .str [101, 58]] = pcs.map .str := rfl
  have k1 := bareE (x := [32, 114, 101, 58, 114, 101, 58, 120, 32, 32, 121]) (by decide) (by unfold okT; decide)
  have k2 := bareE (x := [114, 101]) (by decide) (by unfold okT; decide)
  have k3 := bareE (x := [114, 101, 58]) (by decide) (by unfold okT; decide)
  have k4 := bareE (x := [120, 32, 114, 101, 58, 32, 121]) (by decide) (by unfold okT; decide)
  have v1 : bareL [32, 114, 101, 58, 114, 101, 58, 120, 32, 32, 121] = [120, 32, 121] := by decide
  have v2 : bareL [114, 101] = [114, 101] := by decide
  have v3 : bareL [114, 101, 58] = [] := by decide
  have v4 : bareL [120, 32, 114, 101, 58, 32, 121] = [120, 32, 114, 101, 58, 32, 121] := by decide
  rw [v1] at k1
  rw [v2] at k2
  rw [v3] at k3
  rw [v4] at k4
  unfold E1 at h1
  have l10 : (10 : Nat) ≤ 1000000 := by decide
  have hE2 := hE [some (.rol (ns.map .int), .shr), none, none, none, none, none, none, none, none, none, none] rfl
  simp only [e_bok, e_bexc, fin_rt, fin_nx, fin_exc, run1, run2, run3, run4, e_seq, e_seq_nx, e_seq_rt, e_seq_bk, e_seq_ct, e_nil, e_pass, e_brk, e_cnt, e_retN, e_raise, e_drop, e_drop1, e_ret, take_flat, e_ret_deep, e_ret_one, e_ret_none, e_if, e_if_t, e_if_f, e_set, e_set_deep, e_set_none, e_down_nil, e_wipe_nil, e_wipe, e_c, e_slot0, e_slotS, e_var, e_var1, e_rv_int, e_rv_str, e_rv_bl, e_rv_non, e_rv_lstD, e_rv_lstR, e_rv_lstS, e_rv_dicD, e_rv_dicR, e_rv_dicS, e_bin, e_bin1, e_one, e_tOf, e_toB, e_tNot, e_tNot1, e_tAnd, e_tOr, e_tAnd_t, e_tAnd_f, e_tOr_t, e_tOr_f, e_and, e_or, e_and_t, e_and_f, e_or_t, e_or_f, e_not, e_not1, e_neg, e_neg1, e_ife, e_ife_t, e_ife_f, e_aNil, e_aCons, e_aCons1, e_aCons2, e_tup, e_lst, e_tup1, e_lst1, e_src0, e_srcS, e_mv0, e_mvS, e_mvN, e_mvC, e_mvC0, e_add_i, e_add_s, e_add_l, e_sub, e_mod, e_fdv, e_mul, e_mul_s, e_pow18, e_lt, e_le, e_gt, e_ge, e_eq, e_ne, e_eq1, e_ne1, eqF_s, eqF_i, eqF_b, eqF_ln, eqF_rn, e_in_s, e_in_l, e_in_r, e_in_t, e_in_d, e_in1, e_rsB_f, e_rsB_t, e_pick_s, e_pick_i, e_pick_b, e_pick_l, e_pick_d, e_subs_l, e_subs_r, e_subs_t, e_subs_s, e_subs_d, e_subs1, e_subsS, e_oNone, e_oSome, e_oSome1, e_sl, e_sl1, e_sl2, e_sl_s, e_sl_l, e_sl_r, e_newL, e_newN, e_len_l, e_len_r, e_len_t, e_len_d, e_len_s, e_sum, e_all, e_any, e_m1, e_m11, e_startsw, e_strip, e_lstrip, e_split, e_join, e_iOf, e_it_l, e_it_r, e_it_t, e_it_s, e_range1, e_rg1, e_for, e_for1, e_comp, e_comp1, e_tTrue, e_step, e_step_t, e_step_f, e_step2, e_bind1, e_call, e_call1, e_call_s, e_call_i, e_call_b, e_call_n, e_call_l, e_call_d, e_isi_s, e_cut_hi, e_cut_lo, e_cut_mid, e_cut_last, e_cut_init, e_rv_rol, e_par, e_par2, e_par3, e_wh1_t, e_wh1_f, e_wh2_nx, e_wh2_ct, e_wh2_bk, e_wh2_rt, List.length_cons, List.length_map, List.length_nil, List.map_cons, List.map_nil, List.replicate_succ, List.replicate_zero, Nat.reduceSub, Nat.reduceAdd, Nat.reduceLT, Nat.reduceLeDiff, Nat.reduceEqDiff, List.set_cons_zero, List.set_cons_succ, List.cons_append, List.nil_append, List.append_nil, decide_true, decide_false, Bool.not_true, Bool.not_false, reduceCtorEq, eq_self, Nat.zero_add, Nat.add_zero, Nat.zero_lt_succ, Nat.lt_add_left_iff_pos, Nat.succ_pos, ↓hE2, al, l10, pl, e_sum, e_rg1 (rt := false) (s := []) (m := some []) (j := 6) r6, h1, k1, k2, k3, k4, eq_self]
end PV

namespace PV
open PySem PySem.Spec L2
section
def top (i : Nat) : Stmt := PySem.Challenge.pw_replythread_k01_whole_bare.main.body.getD i (.Pass ⟨0, 0, 0, 0⟩)
structure Txt (K : PySem.W.Frag) (mg : Str → Option Value) : Prop where
  e_BadTitle : ExcK K mg "BadTitle"
  g_LONGEST_TITLE : ∃ t, mg "LONGEST_TITLE" = some (.int 12 t)
  g_SIGNS : ∃ t, mg "SIGNS" = some (.str "abcdefghijklmnopqrstuvwxyz" t)
  n_all : mg "all" = none
  n_isinstance : mg "isinstance" = none
  n_len : mg "len" = none
  n_range : mg "range" = none
  n_str : mg "str" = none
  n_sum : mg "sum" = none
variable {P : Program} {w : World} {K : PySem.W.Frag} {mg : Str → Option Value} {base : Heap} {f : Addr} {fd : FuncData}
abbrev s_is_title : Stmt := top 6
theorem sc_is_title : FnScope ["thing", "sign"] ["thing"] (defScope s_is_title) := ⟨rfl, rfl, rfl, by decide +kernel, rfl, by decide +kernel, by decide +kernel⟩
theorem ok_is_title (T : Txt K mg) (F : Fun K "is_title" "is_title" s_is_title f fd) (g : mg "is_title" = some (.ref f)) (b : Binds K fd ["thing"] []) : DefP P w K mg base 1 "is_title" 1 c_is_title :=
  DefP.mk F (fn_pv (k := 0) F sc_is_title rfl (fun cdv A outer s H E C tk po =>
  ess_cons (es_if (Ew.et (ew_or (et_not (et_of (ev_isiB T.n_isinstance (ev_var 0) T.n_str boot_str ty_str))) (ew_or1 (et_gt (ev_len T.n_len (ev_var 0)) (ev_kInt T.g_LONGEST_TITLE))))) (ess_one (es_ret ev_bl)) ess_nil)
  (ess_one (es_ret (ev_all C T.n_all (ev_comp C (own := [("sign", 1)]) (T := (.one 1)) (ft := tTrue) (fe := y_is_title_1) ⟨by decide, (ei_of (ev_var 0)).pi, blkOk_by (by rfl), fun s H C1 cl fp => tg_one (XOk.blk C) (i := 1), fun s H C1 cl fp => pts_true, fun s H C1 cl fp => (ev_or (ev_in ((XOk.blk C)) (ev_var 1) (ev_kStr T.g_SIGNS)) (ev_one (ev_in ((XOk.blk C)) (ev_var 1) (ev_tup (ea_cons ev_str (ea_cons ev_str ea_nil)))))).pe⟩)))))) g b
abbrev s_bare_of : Stmt := top 7
theorem sc_bare_of : FnScope ["title", "found", "word"] ["title"] (defScope s_bare_of) := ⟨rfl, rfl, rfl, by decide +kernel, rfl, by decide +kernel, by decide +kernel⟩
theorem ok_bare_of (T : Txt K mg) (F : Fun K "bare_of" "bare_of" s_bare_of f fd) (g : mg "bare_of" = some (.ref f)) (b : Binds K fd ["title"] []) : DefP P w K mg base 1 "bare_of" 1 c_bare_of :=
  DefP.mk F (fn_pv (k := 0) F sc_bare_of rfl (fun cdv A outer s H E C tk po =>
  ess_cons (es_set false (pasg C (i := 1) (ev_join ev_str (ev_comp C (own := [("word", 2)]) (T := (.one 2)) (ft := q_bare_of_1) (fe := y_bare_of_1) ⟨by decide, (ei_of (ev_split (ev_var 0) ev_str)).pi, blkOk_by (by rfl), fun s H C1 cl fp => tg_one (XOk.blk C) (i := 2), fun s H C1 cl fp => pts_of (et_ne (ev_var 2) ev_str ((XOk.blk C))), fun s H C1 cl fp => (ev_var 2).pe⟩))))
  (ess_cons (es_while 1000 po (et_of (ev_startsw (ev_var 1) ev_str)) (ess_one (es_set false (pasg C (i := 1) (ev_strip (ev_sl (ev_var 1) (eo_some ev_int) eo_none) ev_str)))))
  (ess_one (es_ret (ev_var 1)))))) g b
abbrev s_bare : Stmt := top 8
theorem sc_bare : FnScope ["title"] ["title"] (defScope s_bare) := ⟨rfl, rfl, rfl, by decide +kernel, rfl, by decide +kernel, by decide +kernel⟩
theorem ok_bare (T : Txt K mg) (D_is_title : DefP P w K mg base 1 "is_title" 1 c_is_title) (D_bare_of : DefP P w K mg base 1 "bare_of" 1 c_bare_of) (F : Fun K "bare" "bare" s_bare f fd) (g : mg "bare" = some (.ref f)) (b : Binds K fd ["title"] []) : DefP P w K mg base 2 "bare" 1 c_bare :=
  DefP.mk F (fn_pv (k := 1) F sc_bare rfl (fun cdv A outer s H E C tk po =>
  ess_cons (es_if (et_not (et_of (ev_call C tk (DefP.at D_is_title) (ea_cons (ev_var 0) ea_nil)))) (ess_one (es_raiseK C tk T.e_BadTitle)) ess_nil)
  (ess_one (es_ret (ev_call C tk (DefP.at D_bare_of) (ea_cons (ev_var 0) ea_nil)))))) g b
abbrev s__law_number : Stmt := top 10
theorem sc__law_number : FnScope ["_law_cell", "_law_at", "_law_whole", "_law_mixed", "_law_more"] ["_law_cell", "_law_at", "_law_whole"] (defScope s__law_number) := ⟨rfl, rfl, rfl, by decide +kernel, rfl, by decide +kernel, by decide +kernel⟩
theorem ok__law_number (T : Txt K mg) (F : Fun K "_law_number" "_law_number" s__law_number f fd) (g : mg "_law_number" = some (.ref f)) (b : Binds K fd ["_law_cell", "_law_at", "_law_whole"] []) : DefP P w K mg base 1 "_law_number" 3 c__law_number :=
  DefP.mk F (fn_pv (k := 0) F sc__law_number rfl (fun cdv A outer s H E C tk po =>
  ess_cons (es_if (et_ge (ev_var 0) (ev_pow ev_int ev_int)) (ess_one (es_ret (ev_var 0))) ess_nil)
  (ess_cons (es_set false (pasg C (i := 3) (ev_mod (ev_add (ev_mul (ev_add (ev_var 0) (ev_mul ev_int (ev_var 1))) ev_int) (ev_var 2)) ev_int)))
  (ess_cons (es_set false (pasg C (i := 4) (ev_mul (ev_mul (ev_var 3) (ev_add (ev_add (ev_var 3) (ev_mul ev_int (ev_var 1))) ev_int)) (ev_add (ev_add (ev_var 3) (ev_var 0)) ev_int))))
  (ess_one (es_ret (ev_fdv (ev_mul (ev_var 4) (ev_add (ev_var 4) ev_int)) ev_int))))))) g b
abbrev s__law_bare : Stmt := top 11
theorem sc__law_bare : FnScope ["_law_title", "_law_found", "_law_sign"] ["_law_title"] (defScope s__law_bare) := ⟨rfl, rfl, rfl, by decide +kernel, rfl, by decide +kernel, by decide +kernel⟩
theorem ok__law_bare (T : Txt K mg) (F : Fun K "_law_bare" "_law_bare" s__law_bare f fd) (g : mg "_law_bare" = some (.ref f)) (b : Binds K fd ["_law_title"] []) : DefP P w K mg base 1 "_law_bare" 1 c__law_bare :=
  DefP.mk F (fn_pv (k := 0) F sc__law_bare rfl (fun cdv A outer s H E C tk po =>
  ess_cons (es_set false (pasg C (i := 1) (ev_str)))
  (ess_cons (es_for po C (T := (.one 2)) (ei_of (ev_var 0)) (tg_one C (i := 2)) (ess_one (es_if (Ew.et (ew_or (et_ne (ev_var 2) ev_str C) (ew_or1 (et_notIn (ev_sl (ev_var 1) (eo_some (ev_neg ev_int)) eo_none) (ev_tup (ea_cons ev_str (ea_cons ev_str ea_nil))) C)))) (ess_one (es_set false (pasg C (i := 1) (ev_add (ev_var 1) (ev_var 2))))) ess_nil)))
  (ess_cons (es_set true (pasg C (i := 1) (ev_if (et_eq (ev_sl (ev_var 1) (eo_some (ev_neg ev_int)) eo_none) ev_str C) (ev_sl (ev_var 1) eo_none (eo_some (ev_neg ev_int))) (ev_var 1))))
  (ess_cons (es_while 1000 po (et_eq (ev_sl (ev_var 1) eo_none (eo_some ev_int)) ev_str C) (ess_one (es_set false (pasg C (i := 1) (ev_if (et_eq (ev_sl (ev_var 1) (eo_some ev_int) (eo_some ev_int)) ev_str C) (ev_sl (ev_var 1) (eo_some ev_int) eo_none) (ev_sl (ev_var 1) (eo_some ev_int) eo_none))))))
  (ess_one (es_ret (ev_var 1)))))))) g b
abbrev s_law : Stmt := top 12
theorem sc_law : FnScope ["_law_script", "_law_cells", "_law_whole", "_law_signs", "_law_pieces", "_law_by", "_law_title", "_law_at", "_law_number_here", "_law_piece", "_law_found"] ["_law_script"] (defScope s_law) := ⟨rfl, rfl, rfl, by decide +kernel, rfl, by decide +kernel, by decide +kernel⟩
theorem ok_law0 (T : Txt K mg) (D__law_number : DefP P w K mg base 1 "_law_number" 3 c__law_number) (D_bare : DefP P w K mg base 2 "bare" 1 c_bare) (D__law_bare : DefP P w K mg base 1 "_law_bare" 1 c__law_bare) (F : Fun K "law" "law" s_law f fd) : FnOk P w K mg base (L2.CX P w) 3 f fd ["_law_script"] (spC ⟨K, mg⟩ 1 c_law) :=
  fn_pv (k := 2) F sc_law rfl (fun cdv A outer s H E C tk po =>
  ess_cons (es_set false (pasg C (i := 1) (ev_if (et_ne (ev_var 0) (ev_lst ea_nil) C) (ev_sl (ev_var 0) eo_none (eo_some ev_int)) (ev_lst (ea_cons ev_int ea_nil)))))
  (ess_cons (es_par2 C (i := 2) (j := 3) (ea_cons (ev_sum C T.n_sum (ev_var 1)) (ea_cons ev_str ea_nil)) (by decide) (by rfl) (by rfl) (by rfl))
  (ess_cons (es_set false (pasg C (i := 4) (ev_lst (ea_cons ev_str (ea_cons ev_str (ea_cons ev_str (ea_cons ev_str (ea_cons ev_str (ea_cons ev_str (ea_cons ev_str (ea_cons ev_str (ea_cons ev_str (ea_cons ev_str ea_nil)))))))))))))
  (ess_cons (es_for po C (T := (.one 5)) (ei_range1 T.n_range (ev_int)) (tg_one C (i := 5)) (ess_cons (es_set false (pasg C (i := 6) (ev_str)))
  (ess_cons (es_for po C (T := (.one 7)) (ei_range1 T.n_range (ev_mod (ev_fdv (ev_call C tk (DefP.at D__law_number) (ea_cons (ev_var 2) (ea_cons (ev_add (ev_var 5) ev_int) (ea_cons ev_int ea_nil)))) ev_int) ev_int)) (tg_one C (i := 7)) (ess_cons (es_set false (pasg C (i := 8) (ev_fdv (ev_call C tk (DefP.at D__law_number) (ea_cons (ev_subs C (ev_var 1) (ev_mod (ev_add (ev_var 7) (ev_var 5)) (ev_len T.n_len (ev_var 1)))) (ea_cons (ev_add (ev_var 7) (ev_mul ev_int (ev_var 5))) (ea_cons (ev_var 2) ea_nil)))) ev_int)))
  (ess_cons (es_set false (pasg C (i := 9) (ev_subs C (ev_var 4) (ev_mod (ev_var 8) (ev_if (et_eq (ev_mod (ev_var 5) ev_int) ev_int C) ev_int ev_int)))))
  (ess_one (es_set false (pasg C (i := 6) (ev_add (ev_var 6) (ev_if (et_eq (ev_var 9) ev_str C) (ev_add (ev_subs C (ev_var 3) (ev_mod (ev_fdv (ev_var 8) ev_int) ev_int)) ev_str) (ev_var 9)))))))))
  (ess_cons (es_set false (pasg C (i := 6) (ev_sl (ev_var 6) eo_none (eo_some ev_int))))
  (ess_cons (es_set false (pasg C (i := 10) (ev_call C tk (DefP.at D_bare) (ea_cons (ev_var 6) ea_nil))))
  (ess_one (es_if (Ew.et (ew_or (et_not (et_of (ev_isiB T.n_isinstance (ev_var 10) T.n_str boot_str ty_str))) (ew_or (et_ne (ev_var 10) (ev_call C tk (DefP.at D__law_bare) (ea_cons (ev_var 6) ea_nil)) C) (ew_or1 (et_ne (ev_call C tk (DefP.at D_bare) (ea_cons (ev_var 10) ea_nil)) (ev_var 10) C))))) (ess_one (es_ret ev_bl)) ess_nil)))))))
  (ess_one (es_ret (ev_and (ev_eq C (ev_call C tk (DefP.at D_bare) (ea_cons ev_str ea_nil)) ev_str) (ev_and (ev_eq C (ev_call C tk (DefP.at D_bare) (ea_cons ev_str ea_nil)) ev_str) (ev_and (ev_eq C (ev_call C tk (DefP.at D_bare) (ea_cons ev_str ea_nil)) ev_str) (ev_one (ev_eq C (ev_call C tk (DefP.at D_bare) (ea_cons ev_str ea_nil)) ev_str)))))))))))
end
end PV

namespace PV
open PySem PySem.Spec L2
theorem txt_mk {K : PySem.W.Frag} {h : Heap} {mg : Str → Option Value} {C_BadTitle : Addr} (X : K.In h) (G : h.Ns mainGlobals mg) {t_LONGEST_TITLE} {t_SIGNS}
    (a_BadTitle : PySem.W.nsIn K mainGlobals "BadTitle" = some (some (.ref C_BadTitle))) (x_BadTitle : PySem.W.excIn K C_BadTitle bmV "ValueError.__new__" = true) (k_BadTitle : PySem.W.keepIn K (.ref C_BadTitle) = true) (b_BadTitle : PySem.W.subIn K (.ref C_BadTitle) (.type "BaseException") = some true) (t_BadTitle : PySem.W.typeIn K (.ref C_BadTitle) = some (.type "type"))
    (a_LONGEST_TITLE : PySem.W.nsIn K mainGlobals "LONGEST_TITLE" = some (some (.int 12 t_LONGEST_TITLE)))
    (a_SIGNS : PySem.W.nsIn K mainGlobals "SIGNS" = some (some (.str "abcdefghijklmnopqrstuvwxyz" t_SIGNS)))
    (z_all : PySem.W.nsIn K mainGlobals "all" = some none)
    (z_isinstance : PySem.W.nsIn K mainGlobals "isinstance" = some none)
    (z_len : PySem.W.nsIn K mainGlobals "len" = some none)
    (z_range : PySem.W.nsIn K mainGlobals "range" = some none)
    (z_str : PySem.W.nsIn K mainGlobals "str" = some none)
    (z_sum : PySem.W.nsIn K mainGlobals "sum" = some none) : Txt K mg :=
  ⟨⟨_, PySem.W.mg_of X G a_BadTitle, x_BadTitle, k_BadTitle, b_BadTitle, t_BadTitle⟩, ⟨_, PySem.W.mg_of X G a_LONGEST_TITLE⟩, ⟨_, PySem.W.mg_of X G a_SIGNS⟩, PySem.W.mg_none_of X G z_all, PySem.W.mg_none_of X G z_isinstance, PySem.W.mg_none_of X G z_len, PySem.W.mg_none_of X G z_range, PySem.W.mg_none_of X G z_str, PySem.W.mg_none_of X G z_sum⟩
theorem all_mk {l : PySem.W.OpenLaw} {w : World} {K : PySem.W.Frag} {h : Heap} {mg : Str → Option Value} {fa : Addr} (X : K.In h) (G : h.Ns mainGlobals mg) (hfa : mg "law" = some (.ref fa)) (T : Txt K mg)
    {f_is_title : Addr} {od_is_title an_is_title : Option Addr} {sl_is_title : Array (Option Value)} {oc_is_title kV_is_title dc_is_title pm_is_title cd_is_title ct_is_title : Value} (a_is_title : PySem.W.nsIn K mainGlobals "is_title" = some (some (.ref f_is_title))) (l_is_title : K.lookup f_is_title = some ⟨oc_is_title, od_is_title, .func (PySem.W.fnOf "is_title" "is_title" (defArgs s_is_title) (defBody s_is_title) (defScope s_is_title) .none kV_is_title dc_is_title pm_is_title an_is_title cd_is_title ct_is_title), sl_is_title⟩) (c_is_title : PySem.W.codeIn K cd_is_title "is_title" = true) (k_is_title : PySem.W.keepIn K (.ref f_is_title) = true)
    {f_bare_of : Addr} {od_bare_of an_bare_of : Option Addr} {sl_bare_of : Array (Option Value)} {oc_bare_of kV_bare_of dc_bare_of pm_bare_of cd_bare_of ct_bare_of : Value} (a_bare_of : PySem.W.nsIn K mainGlobals "bare_of" = some (some (.ref f_bare_of))) (l_bare_of : K.lookup f_bare_of = some ⟨oc_bare_of, od_bare_of, .func (PySem.W.fnOf "bare_of" "bare_of" (defArgs s_bare_of) (defBody s_bare_of) (defScope s_bare_of) .none kV_bare_of dc_bare_of pm_bare_of an_bare_of cd_bare_of ct_bare_of), sl_bare_of⟩) (c_bare_of : PySem.W.codeIn K cd_bare_of "bare_of" = true) (k_bare_of : PySem.W.keepIn K (.ref f_bare_of) = true)
    {f_bare : Addr} {od_bare an_bare : Option Addr} {sl_bare : Array (Option Value)} {oc_bare kV_bare dc_bare pm_bare cd_bare ct_bare : Value} (a_bare : PySem.W.nsIn K mainGlobals "bare" = some (some (.ref f_bare))) (l_bare : K.lookup f_bare = some ⟨oc_bare, od_bare, .func (PySem.W.fnOf "bare" "bare" (defArgs s_bare) (defBody s_bare) (defScope s_bare) .none kV_bare dc_bare pm_bare an_bare cd_bare ct_bare), sl_bare⟩) (c_bare : PySem.W.codeIn K cd_bare "bare" = true) (k_bare : PySem.W.keepIn K (.ref f_bare) = true)
    {f__law_number : Addr} {od__law_number an__law_number : Option Addr} {sl__law_number : Array (Option Value)} {oc__law_number kV__law_number dc__law_number pm__law_number cd__law_number ct__law_number : Value} (a__law_number : PySem.W.nsIn K mainGlobals "_law_number" = some (some (.ref f__law_number))) (l__law_number : K.lookup f__law_number = some ⟨oc__law_number, od__law_number, .func (PySem.W.fnOf "_law_number" "_law_number" (defArgs s__law_number) (defBody s__law_number) (defScope s__law_number) .none kV__law_number dc__law_number pm__law_number an__law_number cd__law_number ct__law_number), sl__law_number⟩) (c__law_number : PySem.W.codeIn K cd__law_number "_law_number" = true) (k__law_number : PySem.W.keepIn K (.ref f__law_number) = true)
    {f__law_bare : Addr} {od__law_bare an__law_bare : Option Addr} {sl__law_bare : Array (Option Value)} {oc__law_bare kV__law_bare dc__law_bare pm__law_bare cd__law_bare ct__law_bare : Value} (a__law_bare : PySem.W.nsIn K mainGlobals "_law_bare" = some (some (.ref f__law_bare))) (l__law_bare : K.lookup f__law_bare = some ⟨oc__law_bare, od__law_bare, .func (PySem.W.fnOf "_law_bare" "_law_bare" (defArgs s__law_bare) (defBody s__law_bare) (defScope s__law_bare) .none kV__law_bare dc__law_bare pm__law_bare an__law_bare cd__law_bare ct__law_bare), sl__law_bare⟩) (c__law_bare : PySem.W.codeIn K cd__law_bare "_law_bare" = true) (k__law_bare : PySem.W.keepIn K (.ref f__law_bare) = true)
    {f_law : Addr} {od_law an_law : Option Addr} {sl_law : Array (Option Value)} {oc_law kV_law dc_law pm_law cd_law ct_law : Value} (a_law : PySem.W.nsIn K mainGlobals "law" = some (some (.ref f_law))) (l_law : K.lookup f_law = some ⟨oc_law, od_law, .func (PySem.W.fnOf "law" "law" (defArgs s_law) (defBody s_law) (defScope s_law) .none kV_law dc_law pm_law an_law cd_law ct_law), sl_law⟩) (c_law : PySem.W.codeIn K cd_law "law" = true) (k_law : PySem.W.keepIn K (.ref f_law) = true) :
    ∃ fd : FuncData, (∀ (s : Shared) (v : Value), BindsTo s fd ⟨[v], []⟩ [("_law_script", v)]) ∧ ∀ base : Heap, K.In base → base.Ns mainGlobals mg → FnOk l.prog w K mg base (L2.CX l.prog w) 3 fa fd ["_law_script"] (spLaw K) := by
  have e := hfa.symm.trans (PySem.W.mg_of X G a_law)
  cases e
  have F_is_title := fun_mk (st := s_is_title) l_is_title c_is_title k_is_title
  have D_is_title := fun (base : Heap) => ok_is_title (P := l.prog) (w := w) (base := base) T F_is_title (PySem.W.mg_of X G a_is_title) (F_is_title.binds (ps := ["thing"]) fun _ _ _ _ _ _ us hl => match us, hl with | [_], _ => rfl)
  have F_bare_of := fun_mk (st := s_bare_of) l_bare_of c_bare_of k_bare_of
  have D_bare_of := fun (base : Heap) => ok_bare_of (P := l.prog) (w := w) (base := base) T F_bare_of (PySem.W.mg_of X G a_bare_of) (F_bare_of.binds (ps := ["title"]) fun _ _ _ _ _ _ us hl => match us, hl with | [_], _ => rfl)
  have F_bare := fun_mk (st := s_bare) l_bare c_bare k_bare
  have D_bare := fun (base : Heap) => ok_bare (P := l.prog) (w := w) (base := base) T (D_is_title base) (D_bare_of base) F_bare (PySem.W.mg_of X G a_bare) (F_bare.binds (ps := ["title"]) fun _ _ _ _ _ _ us hl => match us, hl with | [_], _ => rfl)
  have F__law_number := fun_mk (st := s__law_number) l__law_number c__law_number k__law_number
  have D__law_number := fun (base : Heap) => ok__law_number (P := l.prog) (w := w) (base := base) T F__law_number (PySem.W.mg_of X G a__law_number) (F__law_number.binds (ps := ["_law_cell", "_law_at", "_law_whole"]) fun _ _ _ _ _ _ us hl => match us, hl with | [_, _, _], _ => rfl)
  have F__law_bare := fun_mk (st := s__law_bare) l__law_bare c__law_bare k__law_bare
  have D__law_bare := fun (base : Heap) => ok__law_bare (P := l.prog) (w := w) (base := base) T F__law_bare (PySem.W.mg_of X G a__law_bare) (F__law_bare.binds (ps := ["_law_title"]) fun _ _ _ _ _ _ us hl => match us, hl with | [_], _ => rfl)
  have F_law := fun_mk (st := s_law) l_law c_law k_law
  exact ⟨PySem.W.fnOf "law" "law" (defArgs s_law) (defBody s_law) (defScope s_law) .none kV_law dc_law pm_law an_law cd_law ct_law, fun s v => .of_eq rfl, fun base _ _ => law_end (ok_law0 (base := base) T (D__law_number base) (D_bare base) (D__law_bare base) F_law) law_true⟩
end PV
open PySem PySem.W PyProof.Rows
set_option maxRecDepth 100000 in
set_option maxHeartbeats 0 in
theorem PySem.Challenge.cw_replythread_k01_whole_bare_holds : PySem.Challenge.rw_replythread_k01_whole_bare.Holds := by
  w_on; o_law; k_head; (case hw => w_witness2)
  k_fill
  refine L2.walk_ofB (l := PySem.Challenge.rw_replythread_k01_whole_bare) (n := 63) (k := 3) (x := "_law_script") (CX := fun w => L2.CX PySem.Challenge.rw_replythread_k01_whole_bare.prog w) (sp := fun w => PV.spLaw _) rfl (by decide) rfl ⟨rfl, by decide, by decide⟩ (fun w h Y => PySem.W.kIn_of Y) ?F (fun w H a ns hl hb hO hS => PV.law_start hl hb hO hS) ?X
  case X => exact fun _ _ _ _ _ h => PV.no_exc h
  case F =>
    intro w mg fa h KX G hmg
    refine' PV.all_mk KX G hmg (PV.txt_mk KX G ?a_BadTitle ?x_BadTitle ?k_BadTitle ?b_BadTitle ?t_BadTitle ?a_LONGEST_TITLE ?a_SIGNS ?z_all ?z_isinstance ?z_len ?z_range ?z_str ?z_sum) ?a_is_title ?l_is_title ?c_is_title ?k_is_title ?a_bare_of ?l_bare_of ?c_bare_of ?k_bare_of ?a_bare ?l_bare ?c_bare ?k_bare ?a__law_number ?l__law_number ?c__law_number ?k__law_number ?a__law_bare ?l__law_bare ?c__law_bare ?k__law_bare ?a_law ?l_law ?c_law ?k_law
    (case a_BadTitle => k_is)
    (case x_BadTitle => k_exc)
    (case k_BadTitle => k_is)
    (case b_BadTitle => k_is)
    (case t_BadTitle => k_is)
    (case a_LONGEST_TITLE => k_is)
    (case a_SIGNS => k_is)
    (case z_all => k_is)
    (case z_isinstance => k_is)
    (case z_len => k_is)
    (case z_range => k_is)
    (case z_str => k_is)
    (case z_sum => k_is)
    (case a_is_title => k_is)
    (case l_is_title => k_is)
    (case c_is_title => k_is)
    (case k_is_title => k_is)
    (case a_bare_of => k_is)
    (case l_bare_of => k_is)
    (case c_bare_of => k_is)
    (case k_bare_of => k_is)
    (case a_bare => k_is)
    (case l_bare => k_is)
    (case c_bare => k_is)
    (case k_bare => k_is)
    (case a__law_number => k_is)
    (case l__law_number => k_is)
    (case c__law_number => k_is)
    (case k__law_number => k_is)
    (case a__law_bare => k_is)
    (case l__law_bare => k_is)
    (case c__law_bare => k_is)
    (case k__law_bare => k_is)
    (case a_law => k_is)
    (case l_law => k_is)
    (case c_law => k_is)
    (case k_law => k_is)
#print axioms PySem.Challenge.cw_replythread_k01_whole_bare_holds

