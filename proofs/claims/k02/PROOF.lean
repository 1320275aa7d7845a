import PyProof.Rows.All
import Wide.All
import OpenK.AllK
import Wide.FinOn
import HandS.ForMost
import HandS.Exc
import HandS.ExcOwn
import HandS.Wide
import HandS.StrMore
import HandS.Deep
import HandS.IsInst
import HandS.Walk
import PyProof.NeKinds
import HandS.WideBits
import HandS.Style
import HandS.Flow
import HandS.More
import PyProof.Rows.StrCut
import HandS.WordsExc
import HandS.CallSlots
import HandS.EndBits
import PyProof.ExcBaseAll.ValueError
import KE.RegMulBits
import HandS.Set
import HandS.Strs
import HandS.TupSets
import HandS.SortOrd
import HandS.SortRule
import PyProof.Rows.SortShellAny
import KE.SortData
import KE.DataMinMax
import PyProof.Rows.StrMeet
import HandS.Iter
import HandS.SetKeys
import HandS.Replace
import HandS.SetFor
import KE.Datum
import PyProof.StrReplace2
import HandS.DictComp
import PySem.Challenge.RW_replythread_k02_whole_parents
set_option Elab.async false
set_option linter.all false
set_option maxRecDepth 100000
set_option maxHeartbeats 8000000
/-! PV1: pure data, how it lies in an abstract heap, what keeps it there. -/
namespace PV
open PySem PySem.Spec PyProof.Rows L2

abbrev Tx := List Nat
def mkS (x : Tx) : Str := ⟨x.toArray⟩
theorem mkS_cps (x : Tx) : (mkS x).cps.toList = x := rfl
theorem mkS_inj {x y : Tx} (h : mkS x = mkS y) : x = y := by
  have := congrArg (fun s : Str => s.cps.toList) h
  exact this
theorem mkS_tl (s : Str) : mkS s.cps.toList = s := by
  cases s
  rfl
theorem mkS_len (x : Tx) : (mkS x).length = x.length := by
  show x.toArray.size = x.length
  simp

inductive Dat where
  | non | bl (b : Bool) | int (i : Int) | str (x : Tx)
  | tup (xs : List Dat) | lst (xs : List Dat)
  /-- a list that is read alone: the script -/
  | rol (xs : List Dat)
  | dic (ks : List Tx) (vs : List Dat)
  | ins (c : Tx) (ks : List Tx) (vs : List Dat)
  | fn (n : Tx)
  deriving Inhabited

/-- the module: what the top has written, its names -/
structure Glo where
  K : PySem.W.Frag
  mg : Str → Option Value
abbrev glo (X : Cx) : Glo := ⟨X.K, X.mg⟩

def kvOf : List Tx → List V → List (Key × V)
  | k :: ks, v :: vs => (Sum.inr (mkS k), v) :: kvOf ks vs
  | _, _ => []
def fsOf : List Tx → List V → List (Str × V)
  | k :: ks, v :: vs => (mkS k, v) :: fsOf ks vs
  | _, _ => []
theorem kvOf_len : ∀ {ks : List Tx} {vs : List V}, ks.length = vs.length → (kvOf ks vs).length = ks.length
  | [], [], _ => rfl
  | [], _ :: _, h => by simp at h
  | _ :: _, [], h => by simp at h
  | k :: ks, v :: vs, h => by
    show (kvOf ks vs).length + 1 = ks.length + 1
    rw [kvOf_len (by simpa using h)]

def RoL (K : PySem.W.Frag) (H : Hp) (a : Addr) (xs : List V) : Prop :=
  (∃ ob, H a = some (.frz ob (.lst xs))) ∨ ∃ (o : Obj) (its : Array Value) (n : Nat), K.lookup a = some o ∧ o.cls = .type "list" ∧ o.dict = none ∧ o.data = .seq its n ∧ its.size ≤ sizeLine ∧ Vals xs its.toList

mutual
/-- v stands for d in H; fp: the addresses of what may be written in it, each as often as it is met -/
def Rep (G : Glo) (H : Hp) : Dat → V → List Addr → Prop
  | .non, v, fp => v = .non ∧ fp = []
  | .bl b, v, fp => v = .bl b ∧ fp = []
  | .int i, v, fp => v = .int i ∧ fp = []
  | .str x, v, fp => v = .str (mkS x) ∧ fp = []
  | .tup xs, v, fp => ∃ a vs, v = .ref a ∧ SqT G.K H a vs ∧ RepL G H xs vs fp
  | .lst xs, v, fp => ∃ a vs f, v = .ref a ∧ H a = some (.lst vs) ∧ RepL G H xs vs f ∧ fp = a :: f
  | .rol xs, v, fp => ∃ a vs, v = .ref a ∧ RoL G.K H a vs ∧ RepL G H xs vs fp
  | .dic ks ds, v, fp => ∃ a vs f, v = .ref a ∧ Rd H a (.dK (kvOf ks vs)) ∧ ks.length = vs.length ∧ RepL G H ds vs f ∧ fp = a :: f
  | .ins c ks ds, v, fp => ∃ a C dx vs f, v = .ref a ∧ G.mg (mkS c) = some (.ref C) ∧ H a = some (.ins C dx (fsOf ks vs)) ∧ ks.length = vs.length ∧ RepL G H ds vs f ∧ fp = a :: f
  | .fn n, v, fp => ∃ a, v = .ref a ∧ G.mg (mkS n) = some (.ref a) ∧ fp = []
def RepL (G : Glo) (H : Hp) : List Dat → List V → List Addr → Prop
  | [], vs, fp => vs = [] ∧ fp = []
  | d :: ds, vs, fp => ∃ v vs' f f', vs = v :: vs' ∧ fp = f ++ f' ∧ Rep G H d v f ∧ RepL G H ds vs' f'
end

/-- what may be written -/
def wrO : HO → Bool
  | .lst _ => true
  | .dK _ => true
  | .ins _ _ _ => true
  | _ => false
def Wr (H : Hp) (a : Addr) : Prop := ∃ o, H a = some o ∧ wrO o = true
theorem Wr.mut {H : Hp} {a : Addr} (h : Wr H a) : Mut (H a) := by
  obtain ⟨o, e, w⟩ := h
  rw [e]
  cases o <;> first | trivial | cases w
theorem Wr.dic {H : Hp} {a : Addr} {kvs : List (Key × V)} (h : Wr H a) (r : Rd H a (.dK kvs)) : H a = some (.dK kvs) := by
  rcases r with r | ⟨o, r⟩
  · exact r
  · obtain ⟨u, e, w⟩ := h
    rw [r] at e
    cases e
    cases w

/-- all but what stands at W is kept for reading -/
structure Kp (W : List Addr) (H H' : Hp) : Prop where
  lst : ∀ b xs, b ∉ W → H b = some (.lst xs) → H' b = some (.lst xs)
  dic : ∀ b kvs, b ∉ W → Rd H b (.dK kvs) → Rd H' b (.dK kvs)
  frl : ∀ b xs, (∃ o, H b = some (.frz o (.lst xs))) → ∃ o, H' b = some (.frz o (.lst xs))
  ins : ∀ b C dx fs, b ∉ W → H b = some (.ins C dx fs) → H' b = some (.ins C dx fs)
  tup : ∀ b xs, Rd H b (.tup xs) → Rd H' b (.tup xs)
theorem Kp.same {H H' : Hp} (s : Same H H') : Kp [] H H' := by
  refine ⟨fun b xs _ e => s _ _ e, fun b u _ r => ?_, fun b xs ⟨o, e⟩ => ⟨o, s _ _ e⟩, fun b C dx fs _ e => s _ _ e, fun b xs r => ?_⟩
  · rcases r with r | ⟨o, r⟩
    · exact .inl (s _ _ r)
    · exact .inr ⟨o, s _ _ r⟩
  · rcases r with r | ⟨o, r⟩
    · exact .inl (s _ _ r)
    · exact .inr ⟨o, s _ _ r⟩
theorem Kp.upd {H : Hp} {a : Addr} {o : HO} (w : Wr H a) : Kp [a] H (upd H a o) := by
  have nw : ∀ b u, H b = some u → wrO u = false → b ≠ a := fun b u e wo z => by
    subst z
    obtain ⟨u', e', w'⟩ := w
    rw [e] at e'
    cases e'
    rw [wo] at w'
    cases w'
  refine ⟨fun b xs n e => ?_, fun b u n r => ?_, fun b xs ⟨ob, e⟩ => ⟨ob, ?_⟩, fun b C dx fs n e => ?_, fun b xs r => ?_⟩
  · have nb : b ≠ a := fun z => n (by simp [z])
    rw [upd_ne nb]
    exact e
  · have nb : b ≠ a := fun z => n (by simp [z])
    unfold Rd
    rw [upd_ne nb]
    exact r
  · rw [upd_ne (nw b _ e rfl)]
    exact e
  · have nb : b ≠ a := fun z => n (by simp [z])
    rw [upd_ne nb]
    exact e
  · have nb : b ≠ a := by
      rcases r with r | ⟨ob, r⟩
      · exact nw b _ r rfl
      · exact nw b _ r rfl
    unfold Rd
    rw [upd_ne nb]
    exact r
/-- .. and what is locked stays so -/
structure Kf (W : List Addr) (H H' : Hp) : Prop where
  kp : Kp W H H'
  frz : ∀ b ob u, H b = some (.frz ob u) → H' b = some (.frz ob u)
theorem Kf.same {H H' : Hp} (s : Same H H') : Kf [] H H' := ⟨Kp.same s, fun b ob u e => s _ _ e⟩
theorem Kf.upd {H : Hp} {a : Addr} {o : HO} (w : Wr H a) : Kf [a] H (upd H a o) := ⟨Kp.upd w, fun b ob u e => by
  have nb : b ≠ a := fun z => by
    subst z
    obtain ⟨u', e', w'⟩ := w
    rw [e] at e'
    cases e'
    cases w'
  rw [upd_ne nb]
  exact e⟩
/-- a dict is locked -/
theorem Kf.lck {H : Hp} {d : Addr} {od : Obj} {kvs : List (Key × V)} (h : H d = some (.dK kvs)) : Kf [] H (L2.upd H d (.frz od (.dK kvs))) := by
  have ne : ∀ b o, H b = some o → o ≠ .dK kvs → b ≠ d := fun b o e n z => by
    rw [z, h] at e
    injection e with e
    exact n e.symm
  refine ⟨⟨fun b xs _ e => ?_, fun b u _ r => ?_, fun b xs ⟨o, e⟩ => ⟨o, ?_⟩, fun b C dx fs _ e => ?_, fun b xs r => ?_⟩, fun b ob u e => ?_⟩
  · rw [upd_ne (ne b _ e (fun z => nomatch z))]
    exact e
  · by_cases hb : b = d
    · subst hb
      have e : HO.dK u = HO.dK kvs := by
        rcases r with r | ⟨o, r⟩
        · rw [h] at r
          injection r with r
          exact r.symm
        · rw [h] at r
          cases r
      rw [e]
      exact .inr ⟨od, upd_same⟩
    · unfold Rd
      rw [upd_ne hb]
      exact r
  · rw [upd_ne (ne b _ e (fun z => nomatch z))]
    exact e
  · rw [upd_ne (ne b _ e (fun z => nomatch z))]
    exact e
  · have hb : b ≠ d := by
      rcases r with r | ⟨o, r⟩
      · exact ne b _ r (fun z => nomatch z)
      · exact ne b _ r (fun z => nomatch z)
    unfold Rd
    rw [upd_ne hb]
    exact r
  · rw [upd_ne (ne b _ e (fun z => nomatch z))]
    exact e
/-- .. and free again -/
theorem Kp.unl {H : Hp} {d : Addr} {od : Obj} {kvs : List (Key × V)} (h : H d = some (.frz od (.dK kvs))) : Kp [] H (L2.upd H d (.dK kvs)) := by
  have ne : ∀ b o, H b = some o → o ≠ .frz od (.dK kvs) → b ≠ d := fun b o e n z => by
    rw [z, h] at e
    injection e with e
    exact n e.symm
  refine ⟨fun b xs _ e => ?_, fun b u _ r => ?_, fun b xs ⟨o, e⟩ => ⟨o, ?_⟩, fun b C dx fs _ e => ?_, fun b xs r => ?_⟩
  · rw [upd_ne (ne b _ e (fun z => nomatch z))]
    exact e
  · by_cases hb : b = d
    · subst hb
      have e : HO.dK u = HO.dK kvs := by
        rcases r with r | ⟨o, r⟩
        · rw [h] at r
          cases r
        · rw [h] at r
          injection r with r
          injection r with _ r
          exact r.symm
      rw [e]
      exact .inl upd_same
    · unfold Rd
      rw [upd_ne hb]
      exact r
  · rw [upd_ne (ne b _ e (fun z => by injection z with _ z; cases z))]
    exact e
  · rw [upd_ne (ne b _ e (fun z => nomatch z))]
    exact e
  · have hb : b ≠ d := by
      rcases r with r | ⟨o, r⟩
      · exact ne b _ r (fun z => nomatch z)
      · exact ne b _ r (fun z => by injection z with _ z; cases z)
    unfold Rd
    rw [upd_ne hb]
    exact r
theorem Kp.trans {W : List Addr} {H H1 H2 : Hp} (a : Kp W H H1) (b : Kp W H1 H2) : Kp W H H2 :=
  ⟨fun c xs n r => b.lst c xs n (a.lst c xs n r), fun c u n r => b.dic c u n (a.dic c u n r), fun c xs r => b.frl c xs (a.frl c xs r), fun c C dx fs n e => b.ins c C dx fs n (a.ins c C dx fs n e), fun c xs r => b.tup c xs (a.tup c xs r)⟩
theorem Kp.mono {W W' : List Addr} {H H1 : Hp} (a : Kp W H H1) (h : ∀ b ∈ W, b ∈ W') : Kp W' H H1 :=
  ⟨fun c xs n r => a.lst c xs (fun z => n (h c z)) r, fun c u n r => a.dic c u (fun z => n (h c z)) r, a.frl, fun c C dx fs n e => a.ins c C dx fs (fun z => n (h c z)) e, a.tup⟩

mutual
theorem Rep.kp {G : Glo} {H H' : Hp} {W : List Addr} (k : Kp W H H') : ∀ (d : Dat) (v : V) (fp : List Addr), Rep G H d v fp → (∀ a ∈ fp, a ∉ W) → Rep G H' d v fp
  | .non, _, _, h, _ => by simpa only [Rep] using h
  | .bl _, _, _, h, _ => by simpa only [Rep] using h
  | .int _, _, _, h, _ => by simpa only [Rep] using h
  | .str _, _, _, h, _ => by simpa only [Rep] using h
  | .fn _, _, _, h, _ => by simpa only [Rep] using h
  | .tup xs, v, fp, h, n => by
    simp only [Rep] at h ⊢
    obtain ⟨a, vs, e, q, r⟩ := h
    refine ⟨a, vs, e, ?_, RepL.kp k xs vs fp r n⟩
    rcases q with q | q
    · exact .inl (k.tup a vs q)
    · exact .inr q
  | .lst xs, v, fp, h, n => by
    simp only [Rep] at h ⊢
    obtain ⟨a, vs, f, e, q, r, ef⟩ := h
    subst ef
    exact ⟨a, vs, f, e, k.lst a _ (n a (by simp)) q, RepL.kp k xs vs f r fun b hb => n b (by simp [hb]), rfl⟩
  | .rol xs, v, fp, h, n => by
    simp only [Rep] at h ⊢
    obtain ⟨a, vs, e, q, r⟩ := h
    refine ⟨a, vs, e, ?_, RepL.kp k xs vs fp r n⟩
    rcases q with q | q
    · exact .inl (k.frl a vs q)
    · exact .inr q
  | .dic ks ds, v, fp, h, n => by
    simp only [Rep] at h ⊢
    obtain ⟨a, vs, f, e, q, l, r, ef⟩ := h
    subst ef
    exact ⟨a, vs, f, e, k.dic a _ (n a (by simp)) q, l, RepL.kp k ds vs f r fun b hb => n b (by simp [hb]), rfl⟩
  | .ins c ks ds, v, fp, h, n => by
    simp only [Rep] at h ⊢
    obtain ⟨a, C, dx, vs, f, e, m, q, l, r, ef⟩ := h
    subst ef
    exact ⟨a, C, dx, vs, f, e, m, k.ins a _ _ _ (n a (by simp)) q, l, RepL.kp k ds vs f r fun b hb => n b (by simp [hb]), rfl⟩
theorem RepL.kp {G : Glo} {H H' : Hp} {W : List Addr} (k : Kp W H H') : ∀ (ds : List Dat) (vs : List V) (fp : List Addr), RepL G H ds vs fp → (∀ a ∈ fp, a ∉ W) → RepL G H' ds vs fp
  | [], _, _, h, _ => by simpa only [RepL] using h
  | d :: ds, vs, fp, h, n => by
    simp only [RepL] at h ⊢
    obtain ⟨v, vs', f, f', e1, e2, r, rr⟩ := h
    subst e2
    exact ⟨v, vs', f, f', e1, rfl, Rep.kp k d v f r fun b hb => n b (by simp [hb]), RepL.kp k ds vs' f' rr fun b hb => n b (by simp [hb])⟩
end
theorem Rep.same {G : Glo} {H H' : Hp} (s : Same H H') {d : Dat} {v : V} {fp : List Addr} (h : Rep G H d v fp) : Rep G H' d v fp := Rep.kp (Kp.same s) d v fp h fun _ _ => by simp
theorem RepL.same {G : Glo} {H H' : Hp} (s : Same H H') {d : List Dat} {v : List V} {fp : List Addr} (h : RepL G H d v fp) : RepL G H' d v fp := RepL.kp (Kp.same s) d v fp h fun _ _ => by simp

mutual
/-- what may be written is tracked -/
theorem Rep.trk {G : Glo} {H : Hp} : ∀ (d : Dat) (v : V) (fp : List Addr), Rep G H d v fp → ∀ a ∈ fp, H a ≠ none
  | .non, _, _, h => by
    simp only [Rep] at h
    simp [h.2]
  | .bl _, _, _, h => by
    simp only [Rep] at h
    simp [h.2]
  | .int _, _, _, h => by
    simp only [Rep] at h
    simp [h.2]
  | .str _, _, _, h => by
    simp only [Rep] at h
    simp [h.2]
  | .fn _, _, _, h => by
    simp only [Rep] at h
    obtain ⟨_, _, _, e⟩ := h
    simp [e]
  | .tup xs, v, fp, h => by
    simp only [Rep] at h
    obtain ⟨a, vs, e, q, r⟩ := h
    exact RepL.trk xs vs fp r
  | .lst xs, v, fp, h => by
    simp only [Rep] at h
    obtain ⟨a, vs, f, e, q, r, ef⟩ := h
    subst ef
    intro b hb
    rcases List.mem_cons.mp hb with z | z
    · subst z
      simp [q]
    · exact RepL.trk xs vs f r b z
  | .rol xs, v, fp, h => by
    simp only [Rep] at h
    obtain ⟨a, vs, e, q, r⟩ := h
    exact RepL.trk xs vs fp r
  | .dic ks ds, v, fp, h => by
    simp only [Rep] at h
    obtain ⟨a, vs, f, e, q, l, r, ef⟩ := h
    subst ef
    intro b hb
    rcases List.mem_cons.mp hb with z | z
    · subst z
      rcases q with q | ⟨o, q⟩ <;> simp [q]
    · exact RepL.trk ds vs f r b z
  | .ins c ks ds, v, fp, h => by
    simp only [Rep] at h
    obtain ⟨a, C, dx, vs, f, e, m, q, l, r, ef⟩ := h
    subst ef
    intro b hb
    rcases List.mem_cons.mp hb with z | z
    · subst z
      simp [q]
    · exact RepL.trk ds vs f r b z
theorem RepL.trk {G : Glo} {H : Hp} : ∀ (ds : List Dat) (vs : List V) (fp : List Addr), RepL G H ds vs fp → ∀ a ∈ fp, H a ≠ none
  | [], _, _, h => by
    simp only [RepL] at h
    simp [h.2]
  | d :: ds, vs, fp, h => by
    simp only [RepL] at h
    obtain ⟨v, vs', f, f', e1, e2, r, rr⟩ := h
    subst e2
    intro b hb
    rcases List.mem_append.mp hb with z | z
    · exact Rep.trk d v f r b z
    · exact RepL.trk ds vs' f' rr b z
end

mutual
/-- nothing in it may be written -/
def flat : Dat → Bool
  | .lst _ => false
  | .dic _ _ => false
  | .ins _ _ _ => false
  | .tup xs => flatL xs
  | .rol xs => flatL xs
  | _ => true
def flatL : List Dat → Bool
  | [] => true
  | d :: ds => flat d && flatL ds
end
theorem flatL_all : ∀ ds : List Dat, flatL ds = ds.all flat
  | [] => rfl
  | d :: ds => by
    simp only [flatL, List.all_cons, flatL_all ds]
mutual
theorem Rep.flat {G : Glo} {H : Hp} : ∀ (d : Dat) (v : V) (fp : List Addr), Rep G H d v fp → flat d = true → fp = []
  | .non, _, _, h, _ => by
    simp only [Rep] at h
    exact h.2
  | .bl _, _, _, h, _ => by
    simp only [Rep] at h
    exact h.2
  | .int _, _, _, h, _ => by
    simp only [Rep] at h
    exact h.2
  | .str _, _, _, h, _ => by
    simp only [Rep] at h
    exact h.2
  | .fn _, _, _, h, _ => by
    simp only [Rep] at h
    obtain ⟨_, _, _, e⟩ := h
    exact e
  | .tup xs, v, fp, h, n => by
    simp only [Rep] at h
    obtain ⟨a, vs, e, q, r⟩ := h
    exact RepL.flat xs vs fp r (by simpa only [PV.flat] using n)
  | .rol xs, v, fp, h, n => by
    simp only [Rep] at h
    obtain ⟨a, vs, e, q, r⟩ := h
    exact RepL.flat xs vs fp r (by simpa only [PV.flat] using n)
  | .lst _, _, _, _, n => by simp [PV.flat] at n
  | .dic _ _, _, _, _, n => by simp [PV.flat] at n
  | .ins _ _ _, _, _, _, n => by simp [PV.flat] at n
theorem RepL.flat {G : Glo} {H : Hp} : ∀ (ds : List Dat) (vs : List V) (fp : List Addr), RepL G H ds vs fp → flatL ds = true → fp = []
  | [], _, _, h, _ => by
    simp only [RepL] at h
    exact h.2
  | d :: ds, vs, fp, h, n => by
    simp only [RepL] at h
    simp only [flatL, Bool.and_eq_true] at n
    obtain ⟨v, vs', f, f', e1, e2, r, rr⟩ := h
    subst e2
    rw [Rep.flat d v f r n.1, RepL.flat ds vs' f' rr n.2]
    rfl
end

/-! ### lists of data -/
theorem RepL.len {G : Glo} {H : Hp} : ∀ {ds : List Dat} {vs : List V} {fp : List Addr}, RepL G H ds vs fp → vs.length = ds.length
  | [], _, _, h => by
    simp only [RepL] at h
    simp [h.1]
  | d :: ds, vs, fp, h => by
    simp only [RepL] at h
    obtain ⟨v, vs', f, f', e1, e2, r, rr⟩ := h
    subst e1
    simp [RepL.len rr]
theorem RepL.nil {G : Glo} {H : Hp} : RepL G H [] [] [] := by simp [RepL]
theorem RepL.cons {G : Glo} {H : Hp} {d : Dat} {ds : List Dat} {v : V} {vs : List V} {f f' : List Addr} (h : Rep G H d v f) (r : RepL G H ds vs f') : RepL G H (d :: ds) (v :: vs) (f ++ f') := by
  simp only [RepL]
  exact ⟨v, vs, f, f', rfl, rfl, h, r⟩
theorem RepL.one {G : Glo} {H : Hp} {d : Dat} {v : V} {f : List Addr} (h : Rep G H d v f) : RepL G H [d] [v] f := by
  have := RepL.cons h (RepL.nil (G := G) (H := H))
  simpa using this
theorem RepL.app {G : Glo} {H : Hp} : ∀ {ds es : List Dat} {vs us : List V} {f g : List Addr}, RepL G H ds vs f → RepL G H es us g → RepL G H (ds ++ es) (vs ++ us) (f ++ g)
  | [], es, _, us, _, g, h, r => by
    simp only [RepL] at h
    rw [h.1, h.2]
    exact r
  | d :: ds, es, _, us, _, g, h, r => by
    simp only [RepL] at h
    obtain ⟨v, vs', f, f', e1, e2, rd, rr⟩ := h
    subst e1
    subst e2
    rw [List.append_assoc]
    exact RepL.cons rd (RepL.app rr r)
/-- cut in two -/
theorem RepL.cut {G : Glo} {H : Hp} : ∀ {ds es : List Dat} {vs : List V} {fp : List Addr}, RepL G H (ds ++ es) vs fp → ∃ us ws f g, vs = us ++ ws ∧ fp = f ++ g ∧ RepL G H ds us f ∧ RepL G H es ws g
  | [], es, vs, fp, h => ⟨[], vs, [], fp, rfl, rfl, RepL.nil, h⟩
  | d :: ds, es, vs, fp, h => by
    have h' : RepL G H (d :: (ds ++ es)) vs fp := h
    simp only [RepL] at h'
    obtain ⟨v, vs', f, f', e1, e2, rd, rr⟩ := h'
    obtain ⟨us, ws, f1, g1, q1, q2, q3, q4⟩ := RepL.cut rr
    subst e1
    subst e2
    subst q1
    subst q2
    exact ⟨v :: us, ws, f ++ f1, g1, rfl, by simp, RepL.cons rd q3, q4⟩
/-- the i-th -/
theorem RepL.at {G : Glo} {H : Hp} : ∀ {ds : List Dat} {vs : List V} {fp : List Addr} {i : Nat} {d : Dat}, RepL G H ds vs fp → ds[i]? = some d → ∃ v f, vs[i]? = some v ∧ Rep G H d v f ∧ (∀ a ∈ f, a ∈ fp)
  | [], _, _, _, _, _, e => by simp at e
  | d :: ds, _, _, 0, x, h, e => by
    simp only [RepL] at h
    obtain ⟨v, vs', f, f', e1, e2, rd, rr⟩ := h
    subst e1
    subst e2
    simp at e
    subst e
    exact ⟨v, f, rfl, rd, fun a ha => by simp [ha]⟩
  | d :: ds, _, _, i + 1, x, h, e => by
    simp only [RepL] at h
    obtain ⟨v, vs', f, f', e1, e2, rd, rr⟩ := h
    subst e1
    subst e2
    obtain ⟨u, g, q1, q2, q3⟩ := RepL.at (i := i) rr (by simpa using e)
    exact ⟨u, g, by simpa using q1, q2, fun a ha => by simp [q3 a ha]⟩
/-- any choice of items -/
theorem RepL.pick {G : Glo} {H : Hp} {ds : List Dat} {vs : List V} {fp : List Addr} (h : RepL G H ds vs fp) : ∀ (ix : List Nat), (∀ i ∈ ix, i < ds.length) →
    ∃ f, RepL G H (ix.filterMap fun i => ds[i]?) (ix.filterMap fun i => vs[i]?) f ∧ ∀ a ∈ f, a ∈ fp
  | [], _ => ⟨[], RepL.nil, fun _ z => by simp at z⟩
  | i :: ix, hi => by
    obtain ⟨f, r, hf⟩ := RepL.pick h ix fun j hj => hi j (by simp [hj])
    have hl : i < ds.length := hi i (by simp)
    have e : ds[i]? = some ds[i] := List.getElem?_eq_getElem hl
    obtain ⟨v, g, q1, q2, q3⟩ := RepL.at h e
    refine ⟨g ++ f, ?_, fun a ha => ?_⟩
    · rw [List.filterMap_cons, List.filterMap_cons, e, q1]
      exact RepL.cons q2 r
    · rcases List.mem_append.mp ha with z | z
      · exact q3 a z
      · exact hf a z
theorem RepL.take {G : Glo} {H : Hp} {ds : List Dat} {vs : List V} {fp : List Addr} (h : RepL G H ds vs fp) (n : Nat) : ∃ f, RepL G H (ds.take n) (vs.take n) f ∧ ∀ a ∈ f, a ∈ fp := by
  have h0 : RepL G H (ds.take n ++ ds.drop n) vs fp := by
    rw [List.take_append_drop]
    exact h
  obtain ⟨us, ws, f, g, e1, e2, r1, r2⟩ := RepL.cut h0
  refine ⟨f, ?_, fun a ha => by simp [e2, ha]⟩
  have l1 := r1.len
  have e3 : vs.take n = us := by
    rw [e1]
    by_cases hn : n ≤ ds.length
    · rw [List.take_append_of_le_length (by rw [l1, List.length_take]; omega), List.take_of_length_le (by rw [l1, List.length_take]; omega)]
    · have : ws = [] := by
        have l2 := r2.len
        rw [List.length_drop] at l2
        exact List.eq_nil_of_length_eq_zero (by omega)
      rw [this, List.append_nil, List.take_of_length_le (by rw [l1, List.length_take]; omega)]
  rw [e3]
  exact r1
theorem RepL.drop {G : Glo} {H : Hp} {ds : List Dat} {vs : List V} {fp : List Addr} (h : RepL G H ds vs fp) (n : Nat) : ∃ f, RepL G H (ds.drop n) (vs.drop n) f ∧ ∀ a ∈ f, a ∈ fp := by
  have h0 : RepL G H (ds.take n ++ ds.drop n) vs fp := by
    rw [List.take_append_drop]
    exact h
  obtain ⟨us, ws, f, g, e1, e2, r1, r2⟩ := RepL.cut h0
  refine ⟨g, ?_, fun a ha => by simp [e2, ha]⟩
  have l1 := r1.len
  have e3 : vs.drop n = ws := by
    rw [e1]
    by_cases hn : n ≤ ds.length
    · rw [List.drop_append_of_le_length (by rw [l1, List.length_take]; omega), List.drop_eq_nil_of_le (by rw [l1, List.length_take]; omega), List.nil_append]
    · have : ws = [] := by
        have l2 := r2.len
        rw [List.length_drop] at l2
        exact List.eq_nil_of_length_eq_zero (by omega)
      rw [this, List.append_nil, List.drop_eq_nil_of_le (by rw [l1, List.length_take]; omega)]
  rw [e3]
  exact r2
theorem RepL.rev {G : Glo} {H : Hp} : ∀ {ds : List Dat} {vs : List V} {fp : List Addr}, RepL G H ds vs fp → ∃ f, RepL G H ds.reverse vs.reverse f ∧ f.Perm fp
  | [], _, _, h => by
    simp only [RepL] at h
    rw [h.1, h.2]
    exact ⟨[], RepL.nil, .nil⟩
  | d :: ds, _, _, h => by
    simp only [RepL] at h
    obtain ⟨v, vs', f, f', e1, e2, rd, rr⟩ := h
    subst e1
    subst e2
    obtain ⟨g, q, p⟩ := RepL.rev rr
    refine ⟨g ++ f, ?_, ?_⟩
    · rw [List.reverse_cons, List.reverse_cons]
      exact RepL.app q (RepL.one rd)
    · exact (List.perm_append_comm).trans (p.append_left f)
end PV

/-! PV2: what syntax does to pure data: the judgements. -/
namespace PV
open PySem PySem.Spec L2

inductive Res (α : Type) where
  | ok (a : α) | exc (c : Tx) | no
def Res.bind {α β : Type} : Res α → (α → Res β) → Res β
  | .ok a, f => f a
  | .exc c, _ => .exc c
  | .no, _ => .no
theorem bind_ok {α β : Type} (a : α) (f : α → Res β) : (Res.ok a).bind f = f a := rfl
theorem bind_exc {α β : Type} (c : Tx) (f : α → Res β) : (Res.exc c : Res α).bind f = .exc c := rfl
theorem bind_no {α β : Type} (f : α → Res β) : (Res.no : Res α).bind f = .no := rfl

/-- what an expression gives: the data; is its root new; from which slots what may be written in it may come; which slots it takes whole, each once, all else new -/
structure Rs where
  d : Dat
  rt : Bool := false
  src : List Nat := []
  mv : Option (List Nat) := none
def rsF (d : Dat) : Rs := ⟨d, false, [], some []⟩

inductive Kd where
  | deep | root | shr
  deriving DecidableEq
abbrev Sto := List (Option (Dat × Kd))
abbrev Fp := Nat → List Addr

def slot (E : Sto) (i : Nat) : Option (Dat × Kd) := match E[i]? with
  | some o => o
  | none => none
theorem slot_some {E : Sto} {i : Nat} {x : Dat × Kd} (h : slot E i = some x) : E[i]? = some (some x) := by
  unfold slot at h
  split at h
  · rename_i o e
    rw [e, h]
  · cases h

/-- the slots' data lie in H -/
structure RepE (G : Glo) (H : Hp) (E : Sto) (σ : St) (F : Fp) : Prop where
  len : E.length = σ.length
  rep : ∀ i d k, slot E i = some (d, k) → ∃ v, σ[i]? = some (some v) ∧ Rep G H d v (F i)
  emp : ∀ i, slot E i = none → F i = []
theorem RepE.kp {G : Glo} {H H' : Hp} {E : Sto} {σ : St} {F : Fp} {W : List Addr} (r : RepE G H E σ F) (k : Kp W H H') (n : ∀ i, ∀ a ∈ F i, a ∉ W) : RepE G H' E σ F :=
  ⟨r.len, fun i d kd e => let ⟨v, h1, h2⟩ := r.rep i d kd e; ⟨v, h1, Rep.kp k d v _ h2 (n i)⟩, r.emp⟩
theorem RepE.same {G : Glo} {H H' : Hp} {E : Sto} {σ : St} {F : Fp} (r : RepE G H E σ F) (s : Same H H') : RepE G H' E σ F := r.kp (Kp.same s) fun _ _ _ => by simp
theorem RepE.trk {G : Glo} {H : Hp} {E : Sto} {σ : St} {F : Fp} (r : RepE G H E σ F) (i : Nat) : ∀ a ∈ F i, H a ≠ none := by
  cases e : slot E i with
  | none =>
    intro a ha
    rw [r.emp i e] at ha
    cases ha
  | some x =>
    obtain ⟨d, k⟩ := x
    obtain ⟨v, _, h⟩ := r.rep i d k e
    exact Rep.trk d v _ h

/-- where what may be written comes from, as told -/
structure Prov (H : Hp) (F : Fp) (r : Rs) (H' : Hp) (fp : List Addr) : Prop where
  src : ∀ a ∈ fp, H a = none ∨ ∃ i ∈ r.src, a ∈ F i
  rt : r.rt = true → ∃ a f, fp = a :: f ∧ H a = none ∧ Wr H' a ∧ a ∉ f
  mv : ∀ m, r.mv = some m → ∃ fr, fp.Perm (fr ++ (m.map F).flatten) ∧ fr.Nodup ∧ ∀ a ∈ fr, H a = none ∧ Wr H' a
structure Gv (G : Glo) (H : Hp) (F : Fp) (r : Rs) (v : V) (H' : Hp) (fp : List Addr) : Prop where
  rep : Rep G H' r.d v fp
  prv : Prov H F r H' fp
theorem Wr.same {H H' : Hp} {a : Addr} (s : Same H H') (w : Wr H a) : Wr H' a := let ⟨o, e, z⟩ := w; ⟨o, s _ _ e, z⟩
theorem Gv.same {G : Glo} {H H1 H2 : Hp} {F : Fp} {r : Rs} {v : V} {fp : List Addr} (g : Gv G H F r v H1 fp) (s : Same H1 H2) : Gv G H F r v H2 fp :=
  ⟨g.rep.same s, g.prv.src, fun e => let ⟨a, f, h1, h2, h3, h4⟩ := g.prv.rt e; ⟨a, f, h1, h2, h3.same s, h4⟩, fun m e => let ⟨fr, h1, h2, h3⟩ := g.prv.mv m e; ⟨fr, h1, h2, fun a ha => ⟨(h3 a ha).1, (h3 a ha).2.same s⟩⟩⟩
theorem Prov.back {H0 H : Hp} {F : Fp} {r : Rs} {H' : Hp} {fp : List Addr} (s : Same H0 H) (p : Prov H F r H' fp) : Prov H0 F r H' fp :=
  ⟨fun a ha => (p.src a ha).imp s.free id, fun e => let ⟨a, f, h1, h2, h3⟩ := p.rt e; ⟨a, f, h1, s.free h2, h3⟩, fun m e => let ⟨fr, h1, h2, h3⟩ := p.mv m e; ⟨fr, h1, h2, fun a ha => ⟨s.free (h3 a ha).1, (h3 a ha).2⟩⟩⟩
theorem Gv.back {G : Glo} {H0 H : Hp} {F : Fp} {r : Rs} {v : V} {H' : Hp} {fp : List Addr} (s : Same H0 H) (g : Gv G H F r v H' fp) : Gv G H0 F r v H' fp := ⟨g.rep, g.prv.back s⟩
/-- what holds nothing that may be written -/
theorem Gv.flat {G : Glo} {H : Hp} {F : Fp} {d : Dat} {v : V} {H' : Hp} (r : Rep G H' d v []) : Gv G H F (rsF d) v H' [] :=
  ⟨r, ⟨(fun _ z => nomatch z), (fun z => nomatch z), fun m e => by
    have : m = [] := by
      injection e with e
      exact e.symm
    subst this
    exact ⟨[], .nil, .nil, (fun _ z => nomatch z)⟩⟩⟩

/-- how an outcome meets what is wanted: H0 the heap ahead of the whole, H now -/
def Out (X : Cx) (W : WX) (H0 H : Hp) (F : Fp) (σ : St) (o : Res Rs) (Q : VK) : Prop := match o with
  | .ok r => ∀ v H' fp, Same H H' → Gv (glo X) H0 F r v H' fp → Q v H'
  | .exc c => ∀ C H', X.mg (mkS c) = some (.ref C) → Same H H' → W (.ref C) none σ H'
  | .no => False
def tEv (X : Cx) (W : WX) (f : Sto → Res Rs) : TE := fun σ H Q => ∃ E F, RepE (glo X) H E σ F ∧ Out X W H H F σ (f E) Q
/-- e, evaluated over pure data, is f -/
structure Ev (X : Cx) (W : WX) (e : Expr) (f : Sto → Res Rs) : Prop where
  pe : PE X e (tEv X W f)
theorem weakE {X : Cx} {e : Expr} {t t' : TE} (p : PE X e t) (w : ∀ σ H Q, t' σ H Q → t σ H Q) : PE X e t' := ⟨fun pins s σ H Q I h => p.run pins s σ H Q I (w σ H Q h)⟩
theorem weakT {X : Cx} {e : Expr} {t t' : TT} (p : PT X e t) (w : ∀ σ H Q, t' σ H Q → t σ H Q) : PT X e t' := ⟨fun pins s σ H Q I h => p.run pins s σ H Q I (w σ H Q h)⟩
theorem weakA {X : Cx} {es : List Expr} {t t' : TA} (p : PA X es t) (w : ∀ σ H Q, t' σ H Q → t σ H Q) : PA X es t' := ⟨fun pos pins s σ H Q I h => p.run pos pins s σ H Q I (w σ H Q h)⟩
theorem weakS {X : Cx} {st : Stmt} {t t' : TS} (p : PS X st t) (w : ∀ D σ H, t' D σ H → t D σ H) : PS X st t' := ⟨fun pins s σ H D I h => p.run pins s σ H D I (w D σ H h)⟩
theorem weakSs {X : Cx} {st : List Stmt} {t t' : TS} (p : PSs X st t) (w : ∀ D σ H, t' D σ H → t D σ H) : PSs X st t' := ⟨fun pins s σ H D I h => p.run pins s σ H D I (w D σ H h)⟩

section
variable {X : Cx} {W : WX}
/-- one after another: the part f now, the rest k behind it -/
theorem seqE {f : Sto → Res Rs} {E : Sto} {F : Fp} {σ : St} {H0 H : Hp} {k : Rs → Res Rs} {Q Q' : VK} (re : RepE (glo X) H E σ F) (s : Same H0 H) (o : Out X W H0 H F σ ((f E).bind k) Q)
    (h : ∀ r v H1 fp, f E = .ok r → Same H H1 → Gv (glo X) H0 F r v H1 fp → Out X W H0 H1 F σ (k r) Q → Q' v H1) : tEv X W f σ H Q' := by
  refine ⟨E, F, re, ?_⟩
  cases e : f E with
  | no =>
    rw [e] at o
    exact o
  | exc c =>
    rw [e] at o
    exact o
  | ok r =>
    intro v H1 fp s1 g
    refine h r v H1 fp e s1 (g.back s) ?_
    rw [e] at o
    show Out X W H0 H1 F σ (k r) Q
    have o : Out X W H0 H F σ (k r) Q := o
    cases e2 : k r with
    | no =>
      rw [e2] at o
      exact o
    | exc c =>
      rw [e2] at o
      exact fun C H' m s2 => o C H' m (s1.trans s2)
    | ok r2 =>
      rw [e2] at o
      exact fun v2 H2 fp2 s2 g2 => o v2 H2 fp2 (s1.trans s2) g2
theorem Out.mono {H0 H H1 : Hp} {F : Fp} {σ : St} {o : Res Rs} {Q : VK} (h : Out X W H0 H F σ o Q) (s : Same H H1) : Out X W H0 H1 F σ o Q := by
  cases o with
  | no => exact h
  | exc c => exact fun C H' m s2 => h C H' m (s.trans s2)
  | ok r => exact fun v2 H2 fp2 s2 g2 => h v2 H2 fp2 (s.trans s2) g2
theorem Out.imp {H0 H : Hp} {F : Fp} {σ : St} {o : Res Rs} {Q Q' : VK} (h : Out X W H0 H F σ o Q) (i : ∀ v H', Same H H' → Q v H' → Q' v H') : Out X W H0 H F σ o Q' := by
  cases o with
  | no => exact h
  | exc c => exact h
  | ok r => exact fun v2 H2 fp2 s2 g2 => i v2 H2 s2 (h v2 H2 fp2 s2 g2)
/-- a flat answer -/
theorem Out.flat {H0 H : Hp} {F : Fp} {σ : St} {d : Dat} {Q : VK} {v : V} (h : Out X W H0 H F σ (.ok (rsF d)) Q) (r : Rep (glo X) H d v []) : Q v H := h v H [] (Same.refl H) (Gv.flat r)

/-! ### constants and names -/
def fC (d : Dat) : Sto → Res Rs := fun _ => .ok (rsF d)
theorem ev_int {i j pos} : Ev X W (.Constant (.int i) j pos) (fC (.int i)) :=
  ⟨weakE pe_int fun σ H Q ⟨E, F, re, o⟩ => o.flat (by simp [Rep])⟩
theorem ev_bl {b j pos} : Ev X W (.Constant (.bool b) j pos) (fC (.bl b)) :=
  ⟨weakE pe_bl fun σ H Q ⟨E, F, re, o⟩ => o.flat (by simp [Rep])⟩
theorem ev_non {j pos} : Ev X W (.Constant .none j pos) (fC .non) :=
  ⟨weakE pe_non fun σ H Q ⟨E, F, re, o⟩ => o.flat (by simp [Rep])⟩
theorem ev_str {s : Str} {x : Tx} {j pos} (hx : s.cps.toList = x := by rfl) : Ev X W (.Constant (.str s) j pos) (fC (.str x)) :=
  ⟨weakE pe_str fun σ H Q ⟨E, F, re, o⟩ => o.flat (by simp [Rep, ← hx, mkS_tl])⟩
def rVar (i : Nat) (d : Dat) (k : Kd) : Rs := if flat d then rsF d else ⟨d, false, [i], if k = .deep then some [i] else none⟩
def fVar (i : Nat) : Sto → Res Rs := fun E => match slot E i with
  | some (d, k) => .ok (rVar i d k)
  | none => .no
theorem rVar_gv {G : Glo} {H : Hp} {E : Sto} {σ : St} {F : Fp} {i : Nat} {d : Dat} {k : Kd} {v : V} (r : Rep G H d v (F i)) : Gv G H F (rVar i d k) v H (F i) := by
  unfold rVar
  by_cases h : flat d = true
  · rw [if_pos h]
    have e := Rep.flat d v _ r h
    rw [e] at r ⊢
    exact Gv.flat r
  · rw [if_neg h]
    refine ⟨r, fun a ha => .inr ⟨i, by simp, ha⟩, fun z => by simp at z, fun m e => ?_⟩
    by_cases hk : k = .deep
    · have e' : some [i] = some m := by simpa [hk] using e
      injection e' with e'
      subst e'
      exact ⟨[], by simp, .nil, (fun _ z => nomatch z)⟩
    · have e' : (none : Option (List Nat)) = some m := by simpa [hk] using e
      cases e'
theorem rVar_d {i : Nat} {d : Dat} {k : Kd} : (rVar i d k).d = d := by
  unfold rVar
  split <;> rfl
theorem ev_var (i : Nat) {x : Str} {pos : Pos} (hN : X.N[i]? = some x := by rfl) (hv : Vis X.env.scope x := by first | exact Or.inl rfl | exact Or.inr (Or.inl rfl) | exact Or.inr (Or.inr rfl)) (hd : (x == ("__debug__" : Str)) = false := by decide)
    (hcd : (x == ("__classdict__" : Str)) = false := by decide) : Ev X W (.Name x pos) (fVar i) := by
  refine ⟨weakE (pe_var (i := i) hN hv hd hcd) fun σ H Q ⟨E, F, re, o⟩ => ?_⟩
  unfold fVar at o
  cases e : slot E i with
  | none =>
    simp only [e] at o
    exact o.elim
  | some y =>
    obtain ⟨d, k⟩ := y
    simp only [e] at o
    obtain ⟨v, h1, h2⟩ := re.rep i d k e
    exact ⟨v, h1, o v H (F i) (Same.refl H) (rVar_gv (E := E) (σ := σ) h2)⟩
/-- a constant of the module -/
theorem ev_glob {x : Str} {d : Dat} {u : Value} {v : V} {pos : Pos} (hg : Gl X x) (hm : X.mg x = some u) (r : RelV v u) (hr : Rep (glo X) (fun _ => none) d v []) (hd : (x == ("__debug__" : Str)) = false := by decide) : Ev X W (.Name x pos) (fC d) :=
  ⟨weakE (pe_glob hg hm r hd) fun σ H Q ⟨E, F, re, o⟩ => o.flat (hr.same fun _ _ z => by cases z)⟩

/-! ### tests -/
def OutB (X : Cx) (W : WX) (H : Hp) (σ : St) (o : Res Bool) (Q : Bool → Hp → Prop) : Prop := match o with
  | .ok b => ∀ H', Same H H' → Q b H'
  | .exc c => ∀ C H', X.mg (mkS c) = some (.ref C) → Same H H' → W (.ref C) none σ H'
  | .no => False
def tEt (X : Cx) (W : WX) (f : Sto → Res Bool) : TT := fun σ H Q => ∃ E F, RepE (glo X) H E σ F ∧ OutB X W H σ (f E) Q
structure Et (X : Cx) (W : WX) (e : Expr) (f : Sto → Res Bool) : Prop where
  pt : PT X e (tEt X W f)
/-- for and, or: the whole is given -/
structure Ew (X : Cx) (W : WX) (e : Expr) (f : Sto → Res Bool) : Prop where
  pw : PW X e (tEt X W f)
theorem OutB.mono {H H1 : Hp} {σ : St} {o : Res Bool} {Q : Bool → Hp → Prop} (h : OutB X W H σ o Q) (s : Same H H1) : OutB X W H1 σ o Q := by
  cases o with
  | no => exact h
  | exc c => exact fun C H' m s2 => h C H' m (s.trans s2)
  | ok r => exact fun H2 s2 => h H2 (s.trans s2)
theorem seqT {f : Sto → Res Bool} {E : Sto} {F : Fp} {σ : St} {H : Hp} {k : Bool → Res Bool} {Q Q' : Bool → Hp → Prop} (re : RepE (glo X) H E σ F) (o : OutB X W H σ ((f E).bind k) Q)
    (h : ∀ b H1, f E = .ok b → Same H H1 → OutB X W H1 σ (k b) Q → Q' b H1) : tEt X W f σ H Q' := by
  refine ⟨E, F, re, ?_⟩
  cases e : f E with
  | no =>
    rw [e] at o
    exact o
  | exc c =>
    rw [e] at o
    exact o
  | ok b =>
    intro H1 s1
    rw [e] at o
    exact h b H1 e s1 (OutB.mono (show OutB X W H σ (k b) Q from o) s1)
/-- a value that is a truth, as a test -/
def toB (r : Rs) : Res Bool := match r.d with
  | .bl b => .ok b
  | _ => .no
def tOf (f : Sto → Res Rs) : Sto → Res Bool := fun E => (f E).bind toB
theorem seqET {f : Sto → Res Rs} {E : Sto} {F : Fp} {σ : St} {H : Hp} {k : Rs → Res Bool} {Q : Bool → Hp → Prop} {Q' : VK} (re : RepE (glo X) H E σ F) (o : OutB X W H σ ((f E).bind k) Q)
    (h : ∀ r v H1 fp, f E = .ok r → Same H H1 → Gv (glo X) H F r v H1 fp → OutB X W H1 σ (k r) Q → Q' v H1) : tEv X W f σ H Q' := by
  refine ⟨E, F, re, ?_⟩
  cases e : f E with
  | no =>
    rw [e] at o
    exact o
  | exc c =>
    rw [e] at o
    exact o
  | ok r =>
    intro v H1 fp s1 g
    rw [e] at o
    exact h r v H1 fp e s1 g (OutB.mono (show OutB X W H σ (k r) Q from o) s1)
theorem et_of {e : Expr} {f : Sto → Res Rs} (h : Ev X W e f) (he : ∀ whole, isTrue e X.env whole = (do let v ← whole; standAt e.pos; holding [v] (truthy v)) := by intro _; rfl) : Et X W e (tOf f) := by
  refine ⟨weakT (pt_val h.pe he) fun σ H Q ⟨E, F, re, o⟩ => ?_⟩
  refine seqET re o fun r v H1 fp e s1 g o1 => ?_
  have gr := g.rep
  unfold toB at o1
  cases ed : r.d with
  | bl b =>
    simp only [ed] at o1
    rw [ed] at gr
    simp only [Rep] at gr
    exact ⟨b, gr.1, o1 H1 (Same.refl H1)⟩
  | _ =>
    simp only [ed] at o1
    exact o1.elim
def tNot' (f : Sto → Res Bool) : Sto → Res Bool := fun E => (f E).bind fun b => .ok (!b)
theorem et_not {e : Expr} {f : Sto → Res Bool} {pos : Pos} (h : Et X W e f) : Et X W (.UnaryOp .Not e pos) (tNot' f) := by
  refine ⟨weakT (pt_not h.pt) fun σ H Q ⟨E, F, re, o⟩ => ?_⟩
  exact seqT re o fun b H1 e s1 o1 => o1 H1 (Same.refl H1)
def tAnd' (f g : Sto → Res Bool) : Sto → Res Bool := fun E => (f E).bind fun b => if b then g E else .ok false
def tOr' (f g : Sto → Res Bool) : Sto → Res Bool := fun E => (f E).bind fun b => if b then .ok true else g E
theorem ew_and1 {a : Expr} {f : Sto → Res Bool} {pos : Pos} (h : Et X W a f) : Ew X W (.BoolOp .And [a] pos) f := ⟨pw_and1 h.pt⟩
theorem ew_or1 {a : Expr} {f : Sto → Res Bool} {pos : Pos} (h : Et X W a f) : Ew X W (.BoolOp .Or [a] pos) f := ⟨pw_or1 h.pt⟩
theorem ew_and {a b : Expr} {rest : List Expr} {f g : Sto → Res Bool} {pos : Pos} (ha : Et X W a f) (hb : Ew X W (.BoolOp .And (b :: rest) pos) g) : Ew X W (.BoolOp .And (a :: b :: rest) pos) (tAnd' f g) := by
  refine ⟨⟨fun wh pins s σ H Q I ⟨E, F, re, o⟩ => (pw_and ha.pt hb.pw).run wh pins s σ H Q I ?_⟩⟩
  refine seqT re o fun b H1 e s1 o1 => ?_
  cases b with
  | true =>
    rw [if_pos rfl]
    exact ⟨E, F, re.same s1, o1⟩
  | false =>
    rw [if_neg Bool.false_ne_true]
    exact o1 H1 (Same.refl H1)
theorem ew_or {a b : Expr} {rest : List Expr} {f g : Sto → Res Bool} {pos : Pos} (ha : Et X W a f) (hb : Ew X W (.BoolOp .Or (b :: rest) pos) g) : Ew X W (.BoolOp .Or (a :: b :: rest) pos) (tOr' f g) := by
  refine ⟨⟨fun wh pins s σ H Q I ⟨E, F, re, o⟩ => (pw_or ha.pt hb.pw).run wh pins s σ H Q I ?_⟩⟩
  refine seqT re o fun b H1 e s1 o1 => ?_
  cases b with
  | false =>
    rw [if_neg Bool.false_ne_true]
    exact ⟨E, F, re.same s1, o1⟩
  | true =>
    rw [if_pos rfl]
    exact o1 H1 (Same.refl H1)
theorem Ew.et {e : Expr} {f : Sto → Res Bool} (h : Ew X W e f) : Et X W e f := ⟨h.pw.pt⟩

/-! ### and, or, not, if-else as values -/
def fAnd (f g : Sto → Res Rs) : Sto → Res Rs := fun E => (f E).bind fun r => match r.d with
  | .bl true => g E
  | .bl false => .ok (rsF (.bl false))
  | _ => .no
def fOr (f g : Sto → Res Rs) : Sto → Res Rs := fun E => (f E).bind fun r => match r.d with
  | .bl false => g E
  | .bl true => .ok (rsF (.bl true))
  | _ => .no
def fNot (f : Sto → Res Rs) : Sto → Res Rs := fun E => (f E).bind fun r => match r.d with
  | .bl b => .ok (rsF (.bl (!b)))
  | _ => .no
theorem ev_one {a : Expr} {op} {f : Sto → Res Rs} {pos : Pos} (h : Ev X W a f) : Ev X W (.BoolOp op [a] pos) f := ⟨pe_one h.pe⟩
/-- a part in the same slots, later -/
theorem tail {g : Sto → Res Rs} {E : Sto} {F : Fp} {σ : St} {H0 H : Hp} {Q : VK} (re : RepE (glo X) H E σ F) (s : Same H0 H) (o : Out X W H0 H F σ (g E) Q) : tEv X W g σ H Q := by
  refine ⟨E, F, re, ?_⟩
  cases e : g E with
  | no =>
    rw [e] at o
    exact o
  | exc c =>
    rw [e] at o
    exact o
  | ok r =>
    rw [e] at o
    exact fun v H1 fp s1 g => o v H1 fp s1 (g.back s)
theorem ev_and {a b : Expr} {rest : List Expr} {f g : Sto → Res Rs} {pos : Pos} (ha : Ev X W a f) (hb : Ev X W (.BoolOp .And (b :: rest) pos) g) : Ev X W (.BoolOp .And (a :: b :: rest) pos) (fAnd f g) := by
  refine ⟨weakE (pe_and ha.pe hb.pe) fun σ H Q ⟨E, F, re, o⟩ => ?_⟩
  refine seqE re (Same.refl H) o fun r v H1 fp e s1 g1 o1 => ?_
  have gr := g1.rep
  cases ed : r.d with
  | bl c =>
    rw [ed] at gr
    simp only [Rep] at gr
    refine ⟨c, gr.1, ?_⟩
    cases c with
    | true =>
      simp only [ed] at o1
      rw [if_pos rfl]
      exact tail (re.same s1) s1 o1
    | false =>
      simp only [ed] at o1
      rw [if_neg Bool.false_ne_true]
      exact o1.flat (by simp [Rep])
  | _ =>
    simp only [ed] at o1
    exact o1.elim
theorem ev_or {a b : Expr} {rest : List Expr} {f g : Sto → Res Rs} {pos : Pos} (ha : Ev X W a f) (hb : Ev X W (.BoolOp .Or (b :: rest) pos) g) : Ev X W (.BoolOp .Or (a :: b :: rest) pos) (fOr f g) := by
  refine ⟨weakE (pe_or ha.pe hb.pe) fun σ H Q ⟨E, F, re, o⟩ => ?_⟩
  refine seqE re (Same.refl H) o fun r v H1 fp e s1 g1 o1 => ?_
  have gr := g1.rep
  cases ed : r.d with
  | bl c =>
    rw [ed] at gr
    simp only [Rep] at gr
    refine ⟨c, gr.1, ?_⟩
    cases c with
    | false =>
      simp only [ed] at o1
      rw [if_neg Bool.false_ne_true]
      exact tail (re.same s1) s1 o1
    | true =>
      simp only [ed] at o1
      rw [if_pos rfl]
      exact o1.flat (by simp [Rep])
  | _ =>
    simp only [ed] at o1
    exact o1.elim
theorem ev_not {a : Expr} {f : Sto → Res Rs} {pos : Pos} (ha : Ev X W a f) : Ev X W (.UnaryOp .Not a pos) (fNot f) := by
  refine ⟨weakE (pe_not ha.pe) fun σ H Q ⟨E, F, re, o⟩ => ?_⟩
  refine seqE re (Same.refl H) o fun r v H1 fp e s1 g1 o1 => ?_
  have gr := g1.rep
  cases ed : r.d with
  | bl c =>
    rw [ed] at gr
    simp only [Rep] at gr
    simp only [ed] at o1
    exact ⟨c, gr.1, o1.flat (by simp [Rep])⟩
  | _ =>
    simp only [ed] at o1
    exact o1.elim
def fIf (t : Sto → Res Bool) (f g : Sto → Res Rs) : Sto → Res Rs := fun E => (t E).bind fun b => if b then f E else g E
theorem seqTE {f : Sto → Res Bool} {E : Sto} {F : Fp} {σ : St} {H0 H : Hp} {k : Bool → Res Rs} {Q : VK} {Q' : Bool → Hp → Prop} (re : RepE (glo X) H E σ F) (o : Out X W H0 H F σ ((f E).bind k) Q)
    (h : ∀ b H1, f E = .ok b → Same H H1 → Out X W H0 H1 F σ (k b) Q → Q' b H1) : tEt X W f σ H Q' := by
  refine ⟨E, F, re, ?_⟩
  cases e : f E with
  | no =>
    rw [e] at o
    exact o
  | exc c =>
    rw [e] at o
    exact o
  | ok b =>
    intro H1 s1
    rw [e] at o
    exact h b H1 e s1 (Out.mono (show Out X W H0 H F σ (k b) Q from o) s1)
theorem ev_if {c a b : Expr} {t : Sto → Res Bool} {f g : Sto → Res Rs} {pos : Pos} (hc : Et X W c t) (ha : Ev X W a f) (hb : Ev X W b g) : Ev X W (.IfExp c a b pos) (fIf t f g) := by
  refine ⟨weakE (pe_ifExp hc.pt ha.pe hb.pe) fun σ H Q ⟨E, F, re, o⟩ => ?_⟩
  refine seqTE re o fun b H1 e s1 o1 => ?_
  cases b with
  | true =>
    rw [if_pos rfl]
    exact tail (re.same s1) s1 o1
  | false =>
    rw [if_neg Bool.false_ne_true]
    exact tail (re.same s1) s1 o1

/-! ### argument lists, displays -/
/-- several values: their data in order -/
inductive GvL (G : Glo) (H : Hp) (F : Fp) : List Rs → List V → Hp → List Addr → Prop
  | nil {H'} : GvL G H F [] [] H' []
  | cons {r rs v vs H' f f'} : Gv G H F r v H' f → GvL G H F rs vs H' f' → (∀ a ∈ f', a ∈ f → ∃ i ∈ r.src, a ∈ F i) → GvL G H F (r :: rs) (v :: vs) H' (f ++ f')
theorem GvL.same {G : Glo} {H H1 H2 : Hp} {F : Fp} {rs : List Rs} {vs : List V} {fp : List Addr} (g : GvL G H F rs vs H1 fp) (s : Same H1 H2) : GvL G H F rs vs H2 fp := by
  induction g with
  | nil => exact .nil
  | cons h _ z ih => exact .cons (h.same s) (ih s) z
theorem GvL.reps {G : Glo} {H H1 : Hp} {F : Fp} {rs : List Rs} {vs : List V} {fp : List Addr} (g : GvL G H F rs vs H1 fp) : RepL G H1 (rs.map (·.d)) vs fp := by
  induction g with
  | nil => exact RepL.nil
  | cons h _ z ih => exact RepL.cons h.rep ih
def OutA (X : Cx) (W : WX) (H0 H : Hp) (F : Fp) (σ : St) (o : Res (List Rs)) (Q : List V → Hp → Prop) : Prop := match o with
  | .ok rs => ∀ vs H' fp, Same H H' → GvL (glo X) H0 F rs vs H' fp → Q vs H'
  | .exc c => ∀ C H', X.mg (mkS c) = some (.ref C) → Same H H' → W (.ref C) none σ H'
  | .no => False
def tEa (X : Cx) (W : WX) (f : Sto → Res (List Rs)) : TA := fun σ H Q => ∃ E F, RepE (glo X) H E σ F ∧ OutA X W H H F σ (f E) Q
structure Ea (X : Cx) (W : WX) (es : List Expr) (f : Sto → Res (List Rs)) : Prop where
  pa : PA X es (tEa X W f)
def aNil : Sto → Res (List Rs) := fun _ => .ok []
def aCons (f : Sto → Res Rs) (g : Sto → Res (List Rs)) : Sto → Res (List Rs) := fun E => (f E).bind fun r => (g E).bind fun rs => .ok (r :: rs)
theorem ea_nil : Ea X W [] aNil := ⟨weakA pa_nil fun σ H Q ⟨E, F, re, o⟩ => o [] H [] (Same.refl H) .nil⟩
theorem GvL.back {G : Glo} {H0 H H1 : Hp} {F : Fp} {rs : List Rs} {vs : List V} {fp : List Addr} (s : Same H0 H) (g : GvL G H F rs vs H1 fp) : GvL G H0 F rs vs H1 fp := by
  induction g with
  | nil => exact .nil
  | cons h _ z ih => exact .cons (h.back s) ih z
/-- what is new at H is not of what was there -/
theorem GvL.src {G : Glo} {H H1 : Hp} {F : Fp} {rs : List Rs} {vs : List V} {fp : List Addr} (g : GvL G H F rs vs H1 fp) : ∀ a ∈ fp, H a = none ∨ ∃ r ∈ rs, ∃ i ∈ r.src, a ∈ F i := by
  induction g with
  | nil => exact (fun _ z => nomatch z)
  | cons h _ z ih =>
    intro a ha
    rcases List.mem_append.mp ha with q | q
    · rcases h.prv.src a q with w | ⟨i, hi, w⟩
      · exact .inl w
      · exact .inr ⟨_, by simp, i, hi, w⟩
    · rcases ih a q with w | ⟨r, hr, i, hi, w⟩
      · exact .inl w
      · exact .inr ⟨r, by simp [hr], i, hi, w⟩
theorem ea_cons {e : Expr} {es : List Expr} {f : Sto → Res Rs} {g : Sto → Res (List Rs)} (ha : Ev X W e f) (hb : Ea X W es g) (hs : starEach (e :: es) X.env = (false, eval e X.env) :: starEach es X.env := by rfl) : Ea X W (e :: es) (aCons f g) := by
  refine ⟨weakA (pa_cons ha.pe hb.pa hs) fun σ H Q ⟨E, F, re, o⟩ => ?_⟩
  refine ⟨E, F, re, ?_⟩
  unfold aCons at o
  cases e1 : f E with
  | no =>
    rw [e1] at o
    exact o
  | exc c =>
    rw [e1] at o
    exact o
  | ok r =>
    rw [e1] at o
    intro v H1 fp s1 g1
    refine ⟨E, F, re.same s1, ?_⟩
    cases e2 : g E with
    | no =>
      simp only [bind_ok, e2] at o
      exact o
    | exc c =>
      simp only [bind_ok, e2] at o
      exact fun C H' m s2 => o C H' m (s1.trans s2)
    | ok rs =>
      simp only [bind_ok, e2] at o
      intro vs H2 fp2 s2 g2
      refine o (v :: vs) H2 (fp ++ fp2) (s1.trans s2) (.cons (g1.same s2) (g2.back s1) fun a h1 h2 => ?_)
      have t1 := Rep.trk _ _ _ g1.rep a h2
      rcases g2.src a h1 with w | ⟨r', hr', i, hi, w⟩
      · exact absurd w t1
      · have t0 := re.trk i a w
        rcases g1.prv.src a h2 with w' | w'
        · exact absurd w' t0
        · exact w'
/-- what a display of these holds -/
def allSrc (rs : List Rs) : List Nat := rs.flatMap (·.src)
def allMv : List Rs → Option (List Nat)
  | [] => some []
  | r :: rs => match r.mv, allMv rs with
    | some m, some n => some (m ++ n)
    | _, _ => none
/-- the slots that are taken whole, and what they hold, stand apart -/
theorem GvL.prov {G : Glo} {H H1 : Hp} {F : Fp} {rs : List Rs} {vs : List V} {fp : List Addr} (hF : ∀ i, ∀ a ∈ F i, H a ≠ none) (g : GvL G H F rs vs H1 fp) :
    (∀ a ∈ fp, H a = none ∨ ∃ i ∈ allSrc rs, a ∈ F i) ∧ ∀ m, allMv rs = some m → ∃ fr, fp.Perm (fr ++ (m.map F).flatten) ∧ fr.Nodup ∧ ∀ a ∈ fr, H a = none ∧ Wr H1 a := by
  refine ⟨fun a ha => ?_, ?_⟩
  · rcases g.src a ha with w | ⟨r, hr, i, hi, w⟩
    · exact .inl w
    · exact .inr ⟨i, List.mem_flatMap.mpr ⟨r, hr, hi⟩, w⟩
  · induction g with
    | nil =>
      intro m e
      have : m = [] := by
        injection e with e
        exact e.symm
      subst this
      exact ⟨[], .nil, .nil, (fun _ z => nomatch z)⟩
    | @cons r rs v vs H' f f' h _ z ih =>
      intro m e
      unfold allMv at e
      cases e1 : r.mv with
      | none =>
        simp only [e1] at e
        cases e
      | some m1 =>
        cases e2 : allMv rs with
        | none =>
          simp only [e1, e2] at e
          cases e
        | some m2 =>
          simp only [e1, e2] at e
          injection e with e
          subst e
          obtain ⟨fr1, p1, n1, w1⟩ := h.prv.mv m1 e1
          obtain ⟨fr2, p2, n2, w2⟩ := ih m2 e2
          refine ⟨fr1 ++ fr2, ?_, ?_, fun a ha => ?_⟩
          · rw [List.map_append, List.flatten_append]
            have q := p1.append p2
            refine q.trans ?_
            rw [List.append_assoc, List.append_assoc]
            refine List.Perm.append_left fr1 ?_
            rw [← List.append_assoc, ← List.append_assoc]
            exact List.Perm.append_right _ List.perm_append_comm
          · refine List.nodup_append.mpr ⟨n1, n2, fun a ha b hb eab => ?_⟩
            subst eab
            have hf1 : a ∈ f := p1.mem_iff.mpr (by simp [ha])
            have hf2 : a ∈ f' := p2.mem_iff.mpr (by simp [hb])
            obtain ⟨i, _, w⟩ := z a hf2 hf1
            exact hF i a w (w1 a ha).1
          · rcases List.mem_append.mp ha with q | q
            · exact w1 a q
            · exact w2 a q
def rTup (rs : List Rs) : Rs := ⟨.tup (rs.map (·.d)), false, allSrc rs, allMv rs⟩
def rLst (rs : List Rs) : Rs := ⟨.lst (rs.map (·.d)), true, allSrc rs, allMv rs⟩
def fTup (a : Sto → Res (List Rs)) : Sto → Res Rs := fun E => (a E).bind fun rs => if rs.length ≤ 1000000 then .ok (rTup rs) else .no
def fLst (a : Sto → Res (List Rs)) : Sto → Res Rs := fun E => (a E).bind fun rs => if rs.length ≤ 1000000 then .ok (rLst rs) else .no
theorem same_new {H : Hp} {p : Addr} {o : HO} (h : H p = none) : Same H (upd H p o) := fun b x e => by
  rw [upd_ne (ne_of_none e h)]
  exact e
theorem seqA {f : Sto → Res (List Rs)} {E : Sto} {F : Fp} {σ : St} {H : Hp} {k : List Rs → Res Rs} {Q : VK} {Q' : List V → Hp → Prop} (re : RepE (glo X) H E σ F) (o : Out X W H H F σ ((f E).bind k) Q)
    (h : ∀ rs vs H1 fp, f E = .ok rs → Same H H1 → GvL (glo X) H F rs vs H1 fp → Out X W H H1 F σ (k rs) Q → Q' vs H1) : tEa X W f σ H Q' := by
  refine ⟨E, F, re, ?_⟩
  cases e : f E with
  | no =>
    rw [e] at o
    exact o
  | exc c =>
    rw [e] at o
    exact o
  | ok rs =>
    intro vs H1 fp s1 g
    rw [e] at o
    exact h rs vs H1 fp e s1 g (Out.mono (show Out X W H H F σ (k rs) Q from o) s1)
theorem sizeLine_le {n : Nat} (h : n ≤ 1000000) : n ≤ sizeLine := Nat.le_trans h (by decide)
theorem sizeLine_lt {n : Nat} (h : n ≤ 1000000) : n < sizeLine := Nat.lt_of_le_of_lt h (by decide)
theorem GvL.len {G : Glo} {H H1 : Hp} {F : Fp} {rs : List Rs} {vs : List V} {fp : List Addr} (g : GvL G H F rs vs H1 fp) : vs.length = rs.length := by
  have := g.reps.len
  rw [List.length_map] at this
  exact this
theorem ev_tup {es : List Expr} {a : Sto → Res (List Rs)} {x1} {pos : Pos} (h : Ea X W es a) : Ev X W (.Tuple es x1 pos) (fTup a) := by
  refine ⟨weakE (pe_tup h.pa) fun σ H Q ⟨E, F, re, o⟩ => ?_⟩
  refine seqA re o fun rs vs H1 fp e s1 g o1 => ?_
  by_cases hl : rs.length ≤ 1000000
  · rw [if_pos hl] at o1
    refine ⟨sizeLine_le (by rw [g.len]; exact hl), fun p hp => ?_⟩
    obtain ⟨p1, p2⟩ := g.prov (fun i => re.trk i)
    refine o1 _ _ fp (same_new hp) ⟨?_, p1, (fun z => nomatch z), fun m em => ?_⟩
    · show Rep (glo X) (upd H1 p (.tup vs)) (.tup (rs.map (·.d))) (.ref p) fp
      simp only [Rep]
      exact ⟨p, vs, rfl, .inl (.inl upd_same), g.reps.same (same_new hp)⟩
    · obtain ⟨fr, q1, q2, q3⟩ := p2 m em
      exact ⟨fr, q1, q2, fun a ha => ⟨(q3 a ha).1, (q3 a ha).2.same (same_new hp)⟩⟩
  · rw [if_neg hl] at o1
    exact o1.elim
theorem ev_lst {es : List Expr} {a : Sto → Res (List Rs)} {pos : Pos} (h : Ea X W es a) : Ev X W (.List es pos) (fLst a) := by
  refine ⟨weakE (pe_lst h.pa) fun σ H Q ⟨E, F, re, o⟩ => ?_⟩
  refine seqA re o fun rs vs H1 fp e s1 g o1 => ?_
  by_cases hl : rs.length ≤ 1000000
  · rw [if_pos hl] at o1
    refine ⟨sizeLine_le (by rw [g.len]; exact hl), fun p hp => ?_⟩
    obtain ⟨p1, p2⟩ := g.prov (fun i => re.trk i)
    have hn : H p = none := s1.free hp
    have nfp : p ∉ fp := fun z => RepL.trk _ _ _ g.reps p z hp
    have wp : Wr (upd H1 p (.lst vs)) p := ⟨_, upd_same, rfl⟩
    refine o1 _ _ (p :: fp) (same_new hp) ⟨?_, fun a ha => ?_, fun _ => ⟨p, fp, rfl, hn, wp, nfp⟩, fun m em => ?_⟩
    · show Rep (glo X) (upd H1 p (.lst vs)) (.lst (rs.map (·.d))) (.ref p) (p :: fp)
      simp only [Rep]
      exact ⟨p, vs, fp, rfl, upd_same, g.reps.same (same_new hp), rfl⟩
    · rcases List.mem_cons.mp ha with z | z
      · rw [z]
        exact .inl hn
      · exact p1 a z
    · obtain ⟨fr, q1, q2, q3⟩ := p2 m em
      refine ⟨p :: fr, q1.cons p, List.nodup_cons.mpr ⟨fun z => nfp (q1.mem_iff.mpr (by simp [z])), q2⟩, fun a ha => ?_⟩
      rcases List.mem_cons.mp ha with z | z
      · rw [z]
        exact ⟨hn, wp⟩
      · exact ⟨(q3 a z).1, (q3 a z).2.same (same_new hp)⟩
  · rw [if_neg hl] at o1
    exact o1.elim
end
end PV

/-! PV3: whether two data are equal, by Python's ==, at any depth up to a bound. -/
namespace PV
open PySem PySem.Spec L2

inductive Vw where
  | non | bl (b : Bool) | int (i : Int) | str (x : Tx) | seq (t : Bool) (xs : List Dat) | oth
def vw : Dat → Vw
  | .non => .non
  | .bl b => .bl b
  | .int i => .int i
  | .str x => .str x
  | .tup xs => .seq true xs
  | .lst xs => .seq false xs
  | .rol xs => .seq false xs
  | _ => .oth
def eqL (f : Dat → Dat → Res Bool) : List Dat → List Dat → Res Bool
  | [], [] => .ok true
  | [], _ :: _ => .ok false
  | _ :: _, [] => .ok false
  | x :: xs, y :: ys => (f x y).bind fun b => (eqL f xs ys).bind fun c => .ok (b && c)
def eqD : Nat → Dat → Dat → Res Bool
  | 0, _, _ => .no
  | n + 1, a, b => match vw a, vw b with
    | .non, .non => .ok true
    | .bl x, .bl y => .ok (x == y)
    | .bl x, .int y => .ok ((if x then 1 else 0) == y)
    | .int x, .bl y => .ok (x == (if y then 1 else 0))
    | .int x, .int y => .ok (x == y)
    | .str x, .str y => .ok (decide (x = y))
    | .seq t xs, .seq u ys => if t = u then eqL (eqD n) xs ys else .ok false
    | .oth, _ => .no
    | _, .oth => .no
    | _, _ => .ok false
def getB : Res Bool → Bool
  | .ok b => b
  | _ => false
theorem eqL_at {f : Dat → Dat → Res Bool} : ∀ {xs ys : List Dat} {r : Bool}, eqL f xs ys = .ok r →
    ((List.range (min xs.length ys.length)).all (fun j => getB (f (xs.getD j .non) (ys.getD j .non))) && xs.length == ys.length) = r ∧
    ∀ (j : Nat) (x y : Dat), xs[j]? = some x → ys[j]? = some y → ∃ b, f x y = .ok b
  | [], [], r, h => by
    simp only [eqL] at h
    cases h
    exact ⟨rfl, fun j x y e _ => by simp at e⟩
  | [], _ :: _, r, h => by
    simp only [eqL] at h
    cases h
    exact ⟨by simp, fun j x y e _ => by simp at e⟩
  | _ :: _, [], r, h => by
    simp only [eqL] at h
    cases h
    exact ⟨by simp, fun j x y _ e => by simp at e⟩
  | x :: xs, y :: ys, r, h => by
    simp only [eqL] at h
    cases e1 : f x y with
    | no =>
      rw [e1] at h
      cases h
    | exc c =>
      rw [e1] at h
      cases h
    | ok b =>
      cases e2 : eqL f xs ys with
      | no =>
        rw [e1, e2] at h
        cases h
      | exc c =>
        rw [e1, e2] at h
        cases h
      | ok c =>
        rw [e1, e2] at h
        have h : Res.ok (b && c) = Res.ok r := h
        injection h with h
        obtain ⟨i1, i2⟩ := eqL_at e2
        refine ⟨?_, fun j x' y' h1 h2 => ?_⟩
        · rw [← h, ← i1]
          have m : min (x :: xs).length (y :: ys).length = min xs.length ys.length + 1 := by
            simp only [List.length_cons]
            omega
          have l : ((x :: xs).length == (y :: ys).length) = (xs.length == ys.length) := by simp
          have g : getB (f ((x :: xs).getD 0 Dat.non) ((y :: ys).getD 0 Dat.non)) = b := by
            show getB (f x y) = b
            rw [e1]
            rfl
          rw [m, l, List.range_succ_eq_map, List.all_cons, List.all_map, g, Bool.and_assoc]
          rfl
        · cases j with
          | zero =>
            simp at h1 h2
            subst h1
            subst h2
            exact ⟨b, e1⟩
          | succ j => exact i2 j x' y' (by simpa using h1) (by simpa using h2)

/-- how a value lies that shows such a view -/
def VwAt (G : Glo) (H : Hp) (s : Shared) (u : Value) : Vw → Prop
  | .non => u = .none
  | .bl b => u = .bool b
  | .int i => ∃ t, u = .int i t
  | .str x => ∃ t, u = .str (mkS x) t
  | .seq false xs => ∃ l items vs fp, u = .ref l ∧ s.heap.IsList l items ∧ Vals vs items.toList ∧ RepL G H xs vs fp
  | .seq true xs => ∃ l items vs fp, u = .ref l ∧ s.heap.IsTuple l items ∧ Vals vs items.toList ∧ RepL G H xs vs fp
  | .oth => True
section
variable {X : Cx} {pins : List (Addr × Obj)} {σ : L2.St} {H : Hp} {s : Shared}
theorem Rep.seqL {G : Glo} {H : Hp} {d : Dat} {v : V} {fp : List Addr} {xs : List Dat} (r : Rep G H d v fp) (h : vw d = .seq false xs) : ∃ a vs f, v = .ref a ∧ SqL G.K H a vs ∧ RepL G H xs vs f ∧ ∀ b ∈ f, b ∈ fp := by
  cases d <;> simp only [vw] at h <;> cases h
  · simp only [Rep] at r
    obtain ⟨a, vs, f, e, q, rr, ef⟩ := r
    exact ⟨a, vs, f, e, .inl (.inl q), rr, fun b hb => by simp [ef, hb]⟩
  · simp only [Rep] at r
    obtain ⟨a, vs, e, q, rr⟩ := r
    refine ⟨a, vs, fp, e, ?_, rr, fun b hb => hb⟩
    rcases q with ⟨o, q⟩ | q
    · exact .inl (.inr ⟨o, q⟩)
    · exact .inr q
theorem Rep.seqT {G : Glo} {H : Hp} {d : Dat} {v : V} {fp : List Addr} {xs : List Dat} (r : Rep G H d v fp) (h : vw d = .seq true xs) : ∃ a vs, v = .ref a ∧ SqT G.K H a vs ∧ RepL G H xs vs fp := by
  cases d <;> simp only [vw] at h <;> cases h
  simp only [Rep] at r
  obtain ⟨a, vs, e, q, rr⟩ := r
  exact ⟨a, vs, e, q, rr⟩
theorem vwAt (I : Inv X pins σ H s) {d : Dat} {v : V} {u : Value} {fp : List Addr} (r : Rep (glo X) H d v fp) (rv : RelV v u) : VwAt (glo X) H s u (vw d) := by
  cases e : vw d with
  | oth => trivial
  | non =>
    cases d <;> simp only [vw] at e <;> cases e
    simp only [Rep] at r
    rw [r.1] at rv
    exact rv
  | bl b =>
    cases d <;> simp only [vw] at e <;> cases e
    simp only [Rep] at r
    rw [r.1] at rv
    exact rv
  | int i =>
    cases d <;> simp only [vw] at e <;> cases e
    simp only [Rep] at r
    rw [r.1] at rv
    exact rv
  | str x =>
    cases d <;> simp only [vw] at e <;> cases e
    simp only [Rep] at r
    rw [r.1] at rv
    exact rv
  | seq t xs =>
    cases t with
    | false =>
      obtain ⟨a, vs, f, ev, q, rr, _⟩ := r.seqL e
      subst ev
      obtain rfl : u = Value.ref a := rv
      obtain ⟨its, rl, hp, _⟩ := I.list q
      exact ⟨a, its.toArray, vs, f, rfl, hp.isList, by simpa using rl, rr⟩
    | true =>
      obtain ⟨a, vs, ev, q, rr⟩ := r.seqT e
      subst ev
      obtain rfl : u = Value.ref a := rv
      obtain ⟨its, rl, hp, _⟩ := I.tuple q
      exact ⟨a, its.toArray, vs, fp, rfl, hp, by simpa using rl, rr⟩
def vt : Value → Nat
  | .none => 0
  | .bool _ => 1
  | .int _ _ => 2
  | .str _ _ => 3
  | .ref _ => 4
  | _ => 9
def wt : Vw → Nat
  | .non => 0
  | .bl _ => 1
  | .int _ => 2
  | .str _ => 3
  | .seq _ _ => 4
  | .oth => 8
theorem VwAt.tg {G : Glo} {H : Hp} {s : Shared} {u : Value} : ∀ {w : Vw}, VwAt G H s u w → wt w ≠ 8 → vt u = wt w
  | .non, h, _ => by
    cases h
    rfl
  | .bl _, h, _ => by
    cases h
    rfl
  | .int _, h, _ => by
    obtain ⟨t, h⟩ := h
    subst h
    rfl
  | .str _, h, _ => by
    obtain ⟨t, h⟩ := h
    subst h
    rfl
  | .seq false _, h, _ => by
    obtain ⟨l, _, _, _, h, _⟩ := h
    subst h
    rfl
  | .seq true _, h, _ => by
    obtain ⟨l, _, _, _, h, _⟩ := h
    subst h
    rfl
  | .oth, _, h => absurd rfl h
theorem VwAt.two {G : Glo} {H : Hp} {s : Shared} {u : Value} {w w' : Vw} (h : VwAt G H s u w) (h' : VwAt G H s u w') (n : wt w ≠ 8) (n' : wt w' ≠ 8) : wt w = wt w' := (h.tg n).symm.trans (h'.tg n')
theorem seqD_ok {n : Nat} {a b : Dat} {t u : Bool} {xs ys : List Dat} {r : Bool} (ha : vw a = .seq t xs) (hb : vw b = .seq u ys) (h : eqD (n + 1) a b = .ok r) :
    (t = u ∧ eqL (eqD n) xs ys = .ok r) ∨ (t ≠ u ∧ r = false) := by
  simp only [eqD, ha, hb] at h
  by_cases e : t = u
  · rw [if_pos e] at h
    exact .inl ⟨e, h⟩
  · rw [if_neg e] at h
    injection h with h
    exact .inr ⟨e, h.symm⟩
theorem vals_inj {vs ws : List V} {us : List Value} (a : Vals vs us) (b : Vals ws us) : vs = ws := Vals.inj a b
/-- one value, two data: they are equal -/
theorem eqD_same (I : Inv X pins σ H s) : ∀ (n : Nat) (a b : Dat) (v w : V) (u : Value) (f g : List Addr) (r : Bool), Rep (glo X) H a v f → Rep (glo X) H b w g → RelV v u → RelV w u → eqD n a b = .ok r → r = true
  | 0, _, _, _, _, _, _, _, _, _, _, _, _, h => by cases h
  | n + 1, a, b, v, w, u, f, g, r, ra, rb, rv, rw', h => by
    have A := vwAt I ra rv
    have B := vwAt I rb rw'
    have L : ∀ (xs ys : List Dat) (vs ws : List V) (us : List Value) (f g : List Addr) (r : Bool), RepL (glo X) H xs vs f → RepL (glo X) H ys ws g → Vals vs us → Vals ws us → eqL (eqD n) xs ys = .ok r → r = true := by
      intro xs
      induction xs with
      | nil =>
        intro ys vs ws us f g r h1 h2 h3 h4 h5
        have l1 := h1.len
        have l2 := h2.len
        have l3 := h3.length
        have l4 := h4.length
        cases ys with
        | nil =>
          simp only [eqL] at h5
          injection h5 with h5
          exact h5.symm
        | cons y ys =>
          simp only [List.length_nil, List.length_cons] at l1 l2
          omega
      | cons x xs ih =>
        intro ys vs ws us f g r h1 h2 h3 h4 h5
        cases ys with
        | nil =>
          have l1 := h1.len
          have l2 := h2.len
          have l3 := h3.length
          have l4 := h4.length
          simp only [List.length_nil, List.length_cons] at l1 l2
          omega
        | cons y ys =>
          simp only [RepL] at h1 h2
          obtain ⟨v1, vs1, f1, f1', e1, e2, r1, rr1⟩ := h1
          obtain ⟨w1, ws1, g1, g1', e3, e4, r2, rr2⟩ := h2
          subst e1
          subst e3
          cases h3 with
          | cons p ps =>
            cases h4 with
            | cons q qs =>
              simp only [eqL] at h5
              cases c1 : eqD n x y with
              | no =>
                rw [c1] at h5
                cases h5
              | exc c =>
                rw [c1] at h5
                cases h5
              | ok b1 =>
                cases c2 : eqL (eqD n) xs ys with
                | no =>
                  rw [c1, c2] at h5
                  cases h5
                | exc c =>
                  rw [c1, c2] at h5
                  cases h5
                | ok b2 =>
                  rw [c1, c2] at h5
                  have h5 : Res.ok (b1 && b2) = Res.ok r := h5
                  injection h5 with h5
                  have t1 := eqD_same I n x y v1 w1 _ f1 g1 b1 r1 r2 p q c1
                  have t2 := ih ys vs1 ws1 _ _ _ b2 rr1 rr2 ps qs c2
                  rw [← h5, t1, t2]
                  rfl
    cases ea : vw a with
    | oth =>
      simp only [eqD, ea] at h
      cases h
    | seq t xs =>
      cases eb : vw b with
      | seq t' ys =>
        rw [ea] at A
        rw [eb] at B
        rcases seqD_ok ea eb h with ⟨et, hl⟩ | ⟨nt, er⟩
        · subst et
          cases t with
          | false =>
            obtain ⟨l, its, vs, fp, q1, q2, q3, q4⟩ := A
            obtain ⟨l', its', vs', fp', p1, p2, p3, p4⟩ := B
            subst q1
            injection p1 with p1
            subst p1
            obtain ⟨o, o1, o2, m, o3⟩ := q2
            obtain ⟨o', o1', o2', m', o3'⟩ := p2
            rw [o1] at o1'
            cases o1'
            rw [o3] at o3'
            injection o3' with o3' _
            subst o3'
            exact L _ _ _ _ _ _ _ _ q4 p4 q3 p3 hl
          | true =>
            obtain ⟨l, its, vs, fp, q1, q2, q3, q4⟩ := A
            obtain ⟨l', its', vs', fp', p1, p2, p3, p4⟩ := B
            subst q1
            injection p1 with p1
            subst p1
            obtain ⟨o, o1, o2, m, o3⟩ := q2
            obtain ⟨o', o1', o2', m', o3'⟩ := p2
            rw [o1] at o1'
            cases o1'
            rw [o3] at o3'
            injection o3' with o3' _
            subst o3'
            exact L _ _ _ _ _ _ _ _ q4 p4 q3 p3 hl
        · exfalso
          cases t <;> cases t' <;> first | exact nt rfl | skip
          all_goals
            obtain ⟨l, its, vs, fp, q1, q2, q3, q4⟩ := A
            obtain ⟨l', its', vs', fp', p1, p2, p3, p4⟩ := B
            subst q1
            injection p1 with p1
            subst p1
            obtain ⟨o, o1, o2, m, o3⟩ := q2
            obtain ⟨o', o1', o2', m', o3'⟩ := p2
            rw [o1] at o1'
            cases o1'
            rw [o2] at o2'
            simp at o2'
      | oth =>
        simp only [eqD, ea, eb] at h
        cases h
      | _ =>
        exfalso
        rw [ea] at A
        rw [eb] at B
        have := A.two B (by simp [wt]) (by simp [wt])
        simp [wt] at this
    | _ =>
      rw [ea] at A
      cases eb : vw b with
      | oth =>
        simp only [eqD, ea, eb] at h
        cases h
      | seq t' ys =>
        exfalso
        rw [eb] at B
        have := A.two B (by simp [wt]) (by simp [wt])
        simp [wt] at this
      | _ =>
        rw [eb] at B
        have t2 := A.two B (by simp [wt]) (by simp [wt])
        simp only [eqD, ea, eb] at h
        injection h with h
        subst h
        first
          | rfl
          | (exfalso; simp [wt] at t2; done)
          | (simp only [VwAt] at A B; subst A; injection B with B1; subst B1; simp; done)
          | (simp only [VwAt] at A B; obtain ⟨_, A⟩ := A; subst A; obtain ⟨_, B⟩ := B; injection B with B1 _; subst B1; simp; done)
          | (simp only [VwAt] at A B; obtain ⟨_, A⟩ := A; subst A; obtain ⟨_, B⟩ := B; injection B with B1 _; have := mkS_inj B1; subst this; simp; done)
theorem mkS_dec (x y : Tx) : decide (x = y) = (mkS x == mkS y) := by
  by_cases h : x = y
  · subst h
    simp
  · have : mkS x ≠ mkS y := fun e => h (mkS_inj e)
    simp [h, this]
/-- the elements of two lists, pairwise -/
theorem eqAll_at {s : Shared} {A : Around} {n : Nat} {xs ys : List Dat} {us ws : Array Value} {vs vs' : List V} {f g : List Addr} {r : Bool} {G : Glo} {H : Hp} (h : eqL (eqD n) xs ys = .ok r) (rx : RepL G H xs vs f) (ry : RepL G H ys vs' g) (vx : Vals vs us.toList) (vy : Vals vs' ws.toList)
    (E : ∀ (a b : Dat) (v w : V) (u u' : Value) (f g : List Addr) (r : Bool), Rep G H a v f → Rep G H b w g → RelV v u → RelV w u' → eqD n a b = .ok r → SeqAt.EqAt A s u u' r) :
    (us.size = xs.length) ∧ (ws.size = ys.length) ∧ ∀ j (h1 : j < us.size) (h2 : j < ws.size), SeqAt.EqAt A s us[j] ws[j] (getB (eqD n (xs.getD j .non) (ys.getD j .non))) := by
  have l1 : us.size = xs.length := by
    have a := rx.len
    have b := vx.length
    simp only [Array.length_toList] at b
    omega
  have l2 : ws.size = ys.length := by
    have a := ry.len
    have b := vy.length
    simp only [Array.length_toList] at b
    omega
  refine ⟨l1, l2, fun j h1 h2 => ?_⟩
  have ex : xs[j]? = some (xs.getD j .non) := by
    rw [List.getD_eq_getElem?_getD, List.getElem?_eq_getElem (by omega)]
    rfl
  have ey : ys[j]? = some (ys.getD j .non) := by
    rw [List.getD_eq_getElem?_getD, List.getElem?_eq_getElem (by omega)]
    rfl
  obtain ⟨b, hb⟩ := (eqL_at h).2 j _ _ ex ey
  obtain ⟨v, f1, q1, q2, _⟩ := rx.at ex
  obtain ⟨w, g1, p1, p2, _⟩ := ry.at ey
  obtain ⟨u, e1, r1⟩ := vx.get q1
  obtain ⟨u', e2, r2⟩ := vy.get p1
  have z1 : us[j] = u := by
    rw [List.getElem?_eq_getElem (by simpa using h1)] at e1
    simpa using e1
  have z2 : ws[j] = u' := by
    rw [List.getElem?_eq_getElem (by simpa using h2)] at e2
    simpa using e2
  rw [hb, z1, z2]
  exact E _ _ _ _ _ _ _ _ b q2 p2 r1 r2 hb
theorem lens {xs ys : List Dat} {n : Nat} {r : Bool} (h : eqL (eqD n) xs ys = .ok r) (e : xs.length ≠ ys.length) : r = false := by
  have := (eqL_at h).1
  rw [← this]
  simp [e]
theorem allr {xs ys : List Dat} {n : Nat} {r : Bool} (h : eqL (eqD n) xs ys = .ok r) (e : xs.length = ys.length) : (List.range xs.length).all (fun j => getB (eqD n (xs.getD j .non) (ys.getD j .non))) = r := by
  have := (eqL_at h).1
  rw [← this, e]
  simp
theorem rcAt_of {A : Around} {n : Nat} (I : Inv X pins σ H s) (hu : A.units < cLine)
    (E : ∀ (a b : Dat) (v w : V) (u u' : Value) (f g : List Addr) (r : Bool), Rep (glo X) H a v f → Rep (glo X) H b w g → RelV v u → RelV w u' → eqD n a b = .ok r → SeqAt.EqAt A.in1 s u u' r)
    {a b : Dat} {v w : V} {u u' : Value} {f g : List Addr} {r : Bool} (ra : Rep (glo X) H a v f) (rb : Rep (glo X) H b w g) (rv : RelV v u) (rw' : RelV w u') (h : eqD (n + 1) a b = .ok r) : SeqAt.RcAt A s u u' r := by
  have P := vwAt I ra rv
  have Q := vwAt I rb rw'
  cases ea : vw a with
  | oth =>
    simp only [eqD, ea] at h
    cases h
  | seq t xs =>
    rw [ea] at P
    cases eb : vw b with
    | oth =>
      simp only [eqD, ea, eb] at h
      cases h
    | seq t' ys =>
      rw [eb] at Q
      rcases seqD_ok ea eb h with ⟨et, hl⟩ | ⟨nt, er⟩
      · subst et
        cases t with
        | false =>
          obtain ⟨l, its, vs, fp, q1, q2, q3, q4⟩ := P
          obtain ⟨l', its', vs', fp', p1, p2, p3, p4⟩ := Q
          subst q1
          subst p1
          obtain ⟨z1, z2, z3⟩ := eqAll_at hl q4 p4 q3 p3 E
          by_cases e : xs.length = ys.length
          · rw [← allr hl e, ← z1]
            exact SeqAt.RcAt.lists q2 p2 (by omega) hu z3
          · rw [lens hl e]
            exact SeqAt.RcAt.lists_lengths q2 p2 (by simp; omega) hu
        | true =>
          obtain ⟨l, its, vs, fp, q1, q2, q3, q4⟩ := P
          obtain ⟨l', its', vs', fp', p1, p2, p3, p4⟩ := Q
          subst q1
          subst p1
          obtain ⟨z1, z2, z3⟩ := eqAll_at hl q4 p4 q3 p3 E
          rw [← (eqL_at hl).1, ← z1, ← z2]
          exact SeqAt.RcAt.tuples q2 p2 hu z3
      · subst er
        cases t <;> cases t' <;> first | exact absurd rfl nt | skip
        · obtain ⟨l, its, vs, fp, q1, q2, q3, q4⟩ := P
          obtain ⟨l', its', vs', fp', p1, p2, p3, p4⟩ := Q
          subst q1
          subst p1
          exact SeqAt.RcAt.list_tuple q2 p2 hu
        · obtain ⟨l, its, vs, fp, q1, q2, q3, q4⟩ := P
          obtain ⟨l', its', vs', fp', p1, p2, p3, p4⟩ := Q
          subst q1
          subst p1
          exact SeqAt.RcAt.tuple_list q2 p2 hu
    | non =>
      rw [eb] at Q
      simp only [eqD, ea, eb] at h
      injection h with h
      subst h
      simp only [VwAt] at Q
      subst Q
      cases t
      · obtain ⟨l, its, vs, fp, q1, q2, q3, q4⟩ := P
        subst q1
        exact SeqAt.RcAt.list_none q2 hu
      · obtain ⟨l, its, vs, fp, q1, q2, q3, q4⟩ := P
        subst q1
        exact SeqAt.RcAt.tuple_none q2 hu
    | bl p =>
      rw [eb] at Q
      simp only [eqD, ea, eb] at h
      injection h with h
      subst h
      simp only [VwAt] at Q
      subst Q
      cases t
      · obtain ⟨l, its, vs, fp, q1, q2, q3, q4⟩ := P
        subst q1
        exact SeqAt.RcAt.list_bool _ q2 hu
      · obtain ⟨l, its, vs, fp, q1, q2, q3, q4⟩ := P
        subst q1
        exact SeqAt.RcAt.tuple_bool _ q2 hu
    | int p =>
      rw [eb] at Q
      simp only [eqD, ea, eb] at h
      injection h with h
      subst h
      simp only [VwAt] at Q
      obtain ⟨_, Q⟩ := Q
      subst Q
      cases t
      · obtain ⟨l, its, vs, fp, q1, q2, q3, q4⟩ := P
        subst q1
        exact SeqAt.RcAt.list_int _ _ q2 hu
      · obtain ⟨l, its, vs, fp, q1, q2, q3, q4⟩ := P
        subst q1
        exact SeqAt.RcAt.tuple_int _ _ q2 hu
    | str p =>
      rw [eb] at Q
      simp only [eqD, ea, eb] at h
      injection h with h
      subst h
      simp only [VwAt] at Q
      obtain ⟨_, Q⟩ := Q
      subst Q
      cases t
      · obtain ⟨l, its, vs, fp, q1, q2, q3, q4⟩ := P
        subst q1
        exact SeqAt.RcAt.list_str _ _ q2 hu
      · obtain ⟨l, its, vs, fp, q1, q2, q3, q4⟩ := P
        subst q1
        exact SeqAt.RcAt.tuple_str _ _ q2 hu
  | non =>
    rw [ea] at P
    simp only [VwAt] at P
    subst P
    cases eb : vw b with
    | oth =>
      simp only [eqD, ea, eb] at h
      cases h
    | seq t ys =>
      rw [eb] at Q
      simp only [eqD, ea, eb] at h
      injection h with h
      subst h
      cases t
      · obtain ⟨l, its, vs, fp, q1, q2, q3, q4⟩ := Q
        subst q1
        exact SeqAt.RcAt.none_list q2 hu
      · obtain ⟨l, its, vs, fp, q1, q2, q3, q4⟩ := Q
        subst q1
        exact SeqAt.RcAt.none_tuple q2 hu
    | non =>
      rw [eb] at Q
      simp only [eqD, ea, eb] at h
      injection h with h
      subst h
      simp only [VwAt] at Q
      subst Q
      exact SeqAt.RcAt.none_none
    | bl q =>
      rw [eb] at Q
      simp only [eqD, ea, eb] at h
      injection h with h
      subst h
      simp only [VwAt] at Q
      subst Q
      exact SeqAt.RcAt.none_bool _
    | int q =>
      rw [eb] at Q
      simp only [eqD, ea, eb] at h
      injection h with h
      subst h
      simp only [VwAt] at Q
      obtain ⟨_, Q⟩ := Q
      subst Q
      exact SeqAt.RcAt.none_int _ _
    | str q =>
      rw [eb] at Q
      simp only [eqD, ea, eb] at h
      injection h with h
      subst h
      simp only [VwAt] at Q
      obtain ⟨_, Q⟩ := Q
      subst Q
      exact SeqAt.RcAt.none_str _ _
  | bl p =>
    rw [ea] at P
    simp only [VwAt] at P
    subst P
    cases eb : vw b with
    | oth =>
      simp only [eqD, ea, eb] at h
      cases h
    | seq t ys =>
      rw [eb] at Q
      simp only [eqD, ea, eb] at h
      injection h with h
      subst h
      cases t
      · obtain ⟨l, its, vs, fp, q1, q2, q3, q4⟩ := Q
        subst q1
        exact SeqAt.RcAt.bool_list _ q2 hu
      · obtain ⟨l, its, vs, fp, q1, q2, q3, q4⟩ := Q
        subst q1
        exact SeqAt.RcAt.bool_tuple _ q2 hu
    | non =>
      rw [eb] at Q
      simp only [eqD, ea, eb] at h
      injection h with h
      subst h
      simp only [VwAt] at Q
      subst Q
      exact SeqAt.RcAt.bool_none _
    | bl q =>
      rw [eb] at Q
      simp only [eqD, ea, eb] at h
      injection h with h
      subst h
      simp only [VwAt] at Q
      subst Q
      exact SeqAt.RcAt.bool_bool _ _
    | int q =>
      rw [eb] at Q
      simp only [eqD, ea, eb] at h
      injection h with h
      subst h
      simp only [VwAt] at Q
      obtain ⟨_, Q⟩ := Q
      subst Q
      exact SeqAt.RcAt.bool_int _ _ _
    | str q =>
      rw [eb] at Q
      simp only [eqD, ea, eb] at h
      injection h with h
      subst h
      simp only [VwAt] at Q
      obtain ⟨_, Q⟩ := Q
      subst Q
      exact SeqAt.RcAt.bool_str _ _ _
  | int p =>
    rw [ea] at P
    simp only [VwAt] at P
    obtain ⟨_, P⟩ := P
    subst P
    cases eb : vw b with
    | oth =>
      simp only [eqD, ea, eb] at h
      cases h
    | seq t ys =>
      rw [eb] at Q
      simp only [eqD, ea, eb] at h
      injection h with h
      subst h
      cases t
      · obtain ⟨l, its, vs, fp, q1, q2, q3, q4⟩ := Q
        subst q1
        exact SeqAt.RcAt.int_list _ _ q2 hu
      · obtain ⟨l, its, vs, fp, q1, q2, q3, q4⟩ := Q
        subst q1
        exact SeqAt.RcAt.int_tuple _ _ q2 hu
    | non =>
      rw [eb] at Q
      simp only [eqD, ea, eb] at h
      injection h with h
      subst h
      simp only [VwAt] at Q
      subst Q
      exact SeqAt.RcAt.int_none _ _
    | bl q =>
      rw [eb] at Q
      simp only [eqD, ea, eb] at h
      injection h with h
      subst h
      simp only [VwAt] at Q
      subst Q
      exact SeqAt.RcAt.int_bool _ _ _
    | int q =>
      rw [eb] at Q
      simp only [eqD, ea, eb] at h
      injection h with h
      subst h
      simp only [VwAt] at Q
      obtain ⟨_, Q⟩ := Q
      subst Q
      exact SeqAt.RcAt.int_int _ _ _ _
    | str q =>
      rw [eb] at Q
      simp only [eqD, ea, eb] at h
      injection h with h
      subst h
      simp only [VwAt] at Q
      obtain ⟨_, Q⟩ := Q
      subst Q
      exact SeqAt.RcAt.int_str _ _ _ _
  | str p =>
    rw [ea] at P
    simp only [VwAt] at P
    obtain ⟨_, P⟩ := P
    subst P
    cases eb : vw b with
    | oth =>
      simp only [eqD, ea, eb] at h
      cases h
    | seq t ys =>
      rw [eb] at Q
      simp only [eqD, ea, eb] at h
      injection h with h
      subst h
      cases t
      · obtain ⟨l, its, vs, fp, q1, q2, q3, q4⟩ := Q
        subst q1
        exact SeqAt.RcAt.str_list _ _ q2 hu
      · obtain ⟨l, its, vs, fp, q1, q2, q3, q4⟩ := Q
        subst q1
        exact SeqAt.RcAt.str_tuple _ _ q2 hu
    | non =>
      rw [eb] at Q
      simp only [eqD, ea, eb] at h
      injection h with h
      subst h
      simp only [VwAt] at Q
      subst Q
      exact SeqAt.RcAt.str_none _ _
    | bl q =>
      rw [eb] at Q
      simp only [eqD, ea, eb] at h
      injection h with h
      subst h
      simp only [VwAt] at Q
      subst Q
      exact SeqAt.RcAt.str_bool _ _ _
    | int q =>
      rw [eb] at Q
      simp only [eqD, ea, eb] at h
      injection h with h
      subst h
      simp only [VwAt] at Q
      obtain ⟨_, Q⟩ := Q
      subst Q
      exact SeqAt.RcAt.str_int _ _ _ _
    | str q =>
      rw [eb] at Q
      simp only [eqD, ea, eb] at h
      injection h with h
      subst h
      simp only [VwAt] at Q
      obtain ⟨_, Q⟩ := Q
      subst Q
      rw [mkS_dec]
      exact SeqAt.RcAt.str_str _ _ _ _
theorem rcNeAt_of {A : Around} {n : Nat} (I : Inv X pins σ H s) (hu : A.units < cLine)
    (E : ∀ (a b : Dat) (v w : V) (u u' : Value) (f g : List Addr) (r : Bool), Rep (glo X) H a v f → Rep (glo X) H b w g → RelV v u → RelV w u' → eqD n a b = .ok r → SeqAt.EqAt A.in1 s u u' r)
    {a b : Dat} {v w : V} {u u' : Value} {f g : List Addr} {r : Bool} (ra : Rep (glo X) H a v f) (rb : Rep (glo X) H b w g) (rv : RelV v u) (rw' : RelV w u') (h : eqD (n + 1) a b = .ok r) : SeqAt.RcNeAt A s u u' (!r) := by
  have P := vwAt I ra rv
  have Q := vwAt I rb rw'
  cases ea : vw a with
  | oth =>
    simp only [eqD, ea] at h
    cases h
  | seq t xs =>
    rw [ea] at P
    cases eb : vw b with
    | oth =>
      simp only [eqD, ea, eb] at h
      cases h
    | seq t' ys =>
      rw [eb] at Q
      rcases seqD_ok ea eb h with ⟨et, hl⟩ | ⟨nt, er⟩
      · subst et
        cases t with
        | false =>
          obtain ⟨l, its, vs, fp, q1, q2, q3, q4⟩ := P
          obtain ⟨l', its', vs', fp', p1, p2, p3, p4⟩ := Q
          subst q1
          subst p1
          obtain ⟨z1, z2, z3⟩ := eqAll_at hl q4 p4 q3 p3 E
          by_cases e : xs.length = ys.length
          · rw [← allr hl e, ← z1]
            exact SeqAt.RcNeAt.lists q2 p2 (by omega) hu z3
          · rw [lens hl e]
            exact SeqAt.RcNeAt.lists_lengths q2 p2 (by simp; omega) hu
        | true =>
          obtain ⟨l, its, vs, fp, q1, q2, q3, q4⟩ := P
          obtain ⟨l', its', vs', fp', p1, p2, p3, p4⟩ := Q
          subst q1
          subst p1
          obtain ⟨z1, z2, z3⟩ := eqAll_at hl q4 p4 q3 p3 E
          rw [← (eqL_at hl).1, ← z1, ← z2]
          exact SeqAt.RcNeAt.tuples q2 p2 hu z3
      · subst er
        cases t <;> cases t' <;> first | exact absurd rfl nt | skip
        · obtain ⟨l, its, vs, fp, q1, q2, q3, q4⟩ := P
          obtain ⟨l', its', vs', fp', p1, p2, p3, p4⟩ := Q
          subst q1
          subst p1
          exact SeqAt.RcNeAt.list_tuple q2 p2 hu
        · obtain ⟨l, its, vs, fp, q1, q2, q3, q4⟩ := P
          obtain ⟨l', its', vs', fp', p1, p2, p3, p4⟩ := Q
          subst q1
          subst p1
          exact SeqAt.RcNeAt.tuple_list q2 p2 hu
    | non =>
      rw [eb] at Q
      simp only [eqD, ea, eb] at h
      injection h with h
      subst h
      simp only [VwAt] at Q
      subst Q
      cases t
      · obtain ⟨l, its, vs, fp, q1, q2, q3, q4⟩ := P
        subst q1
        exact SeqAt.RcNeAt.list_none q2 hu
      · obtain ⟨l, its, vs, fp, q1, q2, q3, q4⟩ := P
        subst q1
        exact SeqAt.RcNeAt.tuple_none q2 hu
    | bl p =>
      rw [eb] at Q
      simp only [eqD, ea, eb] at h
      injection h with h
      subst h
      simp only [VwAt] at Q
      subst Q
      cases t
      · obtain ⟨l, its, vs, fp, q1, q2, q3, q4⟩ := P
        subst q1
        exact SeqAt.RcNeAt.list_bool _ q2 hu
      · obtain ⟨l, its, vs, fp, q1, q2, q3, q4⟩ := P
        subst q1
        exact SeqAt.RcNeAt.tuple_bool _ q2 hu
    | int p =>
      rw [eb] at Q
      simp only [eqD, ea, eb] at h
      injection h with h
      subst h
      simp only [VwAt] at Q
      obtain ⟨_, Q⟩ := Q
      subst Q
      cases t
      · obtain ⟨l, its, vs, fp, q1, q2, q3, q4⟩ := P
        subst q1
        exact SeqAt.RcNeAt.list_int _ _ q2 hu
      · obtain ⟨l, its, vs, fp, q1, q2, q3, q4⟩ := P
        subst q1
        exact SeqAt.RcNeAt.tuple_int _ _ q2 hu
    | str p =>
      rw [eb] at Q
      simp only [eqD, ea, eb] at h
      injection h with h
      subst h
      simp only [VwAt] at Q
      obtain ⟨_, Q⟩ := Q
      subst Q
      cases t
      · obtain ⟨l, its, vs, fp, q1, q2, q3, q4⟩ := P
        subst q1
        exact SeqAt.RcNeAt.list_str _ _ q2 hu
      · obtain ⟨l, its, vs, fp, q1, q2, q3, q4⟩ := P
        subst q1
        exact SeqAt.RcNeAt.tuple_str _ _ q2 hu
  | non =>
    rw [ea] at P
    simp only [VwAt] at P
    subst P
    cases eb : vw b with
    | oth =>
      simp only [eqD, ea, eb] at h
      cases h
    | seq t ys =>
      rw [eb] at Q
      simp only [eqD, ea, eb] at h
      injection h with h
      subst h
      cases t
      · obtain ⟨l, its, vs, fp, q1, q2, q3, q4⟩ := Q
        subst q1
        exact SeqAt.RcNeAt.none_list q2 hu
      · obtain ⟨l, its, vs, fp, q1, q2, q3, q4⟩ := Q
        subst q1
        exact SeqAt.RcNeAt.none_tuple q2 hu
    | non =>
      rw [eb] at Q
      simp only [eqD, ea, eb] at h
      injection h with h
      subst h
      simp only [VwAt] at Q
      subst Q
      exact SeqAt.RcNeAt.none_none
    | bl q =>
      rw [eb] at Q
      simp only [eqD, ea, eb] at h
      injection h with h
      subst h
      simp only [VwAt] at Q
      subst Q
      exact SeqAt.RcNeAt.none_bool _
    | int q =>
      rw [eb] at Q
      simp only [eqD, ea, eb] at h
      injection h with h
      subst h
      simp only [VwAt] at Q
      obtain ⟨_, Q⟩ := Q
      subst Q
      exact SeqAt.RcNeAt.none_int _ _
    | str q =>
      rw [eb] at Q
      simp only [eqD, ea, eb] at h
      injection h with h
      subst h
      simp only [VwAt] at Q
      obtain ⟨_, Q⟩ := Q
      subst Q
      exact SeqAt.RcNeAt.none_str _ _
  | bl p =>
    rw [ea] at P
    simp only [VwAt] at P
    subst P
    cases eb : vw b with
    | oth =>
      simp only [eqD, ea, eb] at h
      cases h
    | seq t ys =>
      rw [eb] at Q
      simp only [eqD, ea, eb] at h
      injection h with h
      subst h
      cases t
      · obtain ⟨l, its, vs, fp, q1, q2, q3, q4⟩ := Q
        subst q1
        exact SeqAt.RcNeAt.bool_list _ q2 hu
      · obtain ⟨l, its, vs, fp, q1, q2, q3, q4⟩ := Q
        subst q1
        exact SeqAt.RcNeAt.bool_tuple _ q2 hu
    | non =>
      rw [eb] at Q
      simp only [eqD, ea, eb] at h
      injection h with h
      subst h
      simp only [VwAt] at Q
      subst Q
      exact SeqAt.RcNeAt.bool_none _
    | bl q =>
      rw [eb] at Q
      simp only [eqD, ea, eb] at h
      injection h with h
      subst h
      simp only [VwAt] at Q
      subst Q
      exact SeqAt.RcNeAt.bool_bool _ _
    | int q =>
      rw [eb] at Q
      simp only [eqD, ea, eb] at h
      injection h with h
      subst h
      simp only [VwAt] at Q
      obtain ⟨_, Q⟩ := Q
      subst Q
      exact SeqAt.RcNeAt.bool_int _ _ _
    | str q =>
      rw [eb] at Q
      simp only [eqD, ea, eb] at h
      injection h with h
      subst h
      simp only [VwAt] at Q
      obtain ⟨_, Q⟩ := Q
      subst Q
      exact SeqAt.RcNeAt.bool_str _ _ _
  | int p =>
    rw [ea] at P
    simp only [VwAt] at P
    obtain ⟨_, P⟩ := P
    subst P
    cases eb : vw b with
    | oth =>
      simp only [eqD, ea, eb] at h
      cases h
    | seq t ys =>
      rw [eb] at Q
      simp only [eqD, ea, eb] at h
      injection h with h
      subst h
      cases t
      · obtain ⟨l, its, vs, fp, q1, q2, q3, q4⟩ := Q
        subst q1
        exact SeqAt.RcNeAt.int_list _ _ q2 hu
      · obtain ⟨l, its, vs, fp, q1, q2, q3, q4⟩ := Q
        subst q1
        exact SeqAt.RcNeAt.int_tuple _ _ q2 hu
    | non =>
      rw [eb] at Q
      simp only [eqD, ea, eb] at h
      injection h with h
      subst h
      simp only [VwAt] at Q
      subst Q
      exact SeqAt.RcNeAt.int_none _ _
    | bl q =>
      rw [eb] at Q
      simp only [eqD, ea, eb] at h
      injection h with h
      subst h
      simp only [VwAt] at Q
      subst Q
      exact SeqAt.RcNeAt.int_bool _ _ _
    | int q =>
      rw [eb] at Q
      simp only [eqD, ea, eb] at h
      injection h with h
      subst h
      simp only [VwAt] at Q
      obtain ⟨_, Q⟩ := Q
      subst Q
      exact SeqAt.RcNeAt.int_int _ _ _ _
    | str q =>
      rw [eb] at Q
      simp only [eqD, ea, eb] at h
      injection h with h
      subst h
      simp only [VwAt] at Q
      obtain ⟨_, Q⟩ := Q
      subst Q
      exact SeqAt.RcNeAt.int_str _ _ _ _
  | str p =>
    rw [ea] at P
    simp only [VwAt] at P
    obtain ⟨_, P⟩ := P
    subst P
    cases eb : vw b with
    | oth =>
      simp only [eqD, ea, eb] at h
      cases h
    | seq t ys =>
      rw [eb] at Q
      simp only [eqD, ea, eb] at h
      injection h with h
      subst h
      cases t
      · obtain ⟨l, its, vs, fp, q1, q2, q3, q4⟩ := Q
        subst q1
        exact SeqAt.RcNeAt.str_list _ _ q2 hu
      · obtain ⟨l, its, vs, fp, q1, q2, q3, q4⟩ := Q
        subst q1
        exact SeqAt.RcNeAt.str_tuple _ _ q2 hu
    | non =>
      rw [eb] at Q
      simp only [eqD, ea, eb] at h
      injection h with h
      subst h
      simp only [VwAt] at Q
      subst Q
      exact SeqAt.RcNeAt.str_none _ _
    | bl q =>
      rw [eb] at Q
      simp only [eqD, ea, eb] at h
      injection h with h
      subst h
      simp only [VwAt] at Q
      subst Q
      exact SeqAt.RcNeAt.str_bool _ _ _
    | int q =>
      rw [eb] at Q
      simp only [eqD, ea, eb] at h
      injection h with h
      subst h
      simp only [VwAt] at Q
      obtain ⟨_, Q⟩ := Q
      subst Q
      exact SeqAt.RcNeAt.str_int _ _ _ _
    | str q =>
      rw [eb] at Q
      simp only [eqD, ea, eb] at h
      injection h with h
      subst h
      simp only [VwAt] at Q
      obtain ⟨_, Q⟩ := Q
      subst Q
      rw [mkS_dec]
      exact SeqAt.RcNeAt.str_str _ _ _ _
/-- as a truth of two values in hand -/
theorem eqAt_of (I : Inv X pins σ H s) : ∀ (n : Nat) (A : Around) (a b : Dat) (v w : V) (u u' : Value) (f g : List Addr) (r : Bool), A.units + n < cLine → Rep (glo X) H a v f → Rep (glo X) H b w g → RelV v u → RelV w u' → eqD n a b = .ok r → SeqAt.EqAt A s u u' r
  | 0, _, _, _, _, _, _, _, _, _, _, _, _, _, _, _, h => by cases h
  | n + 1, A, a, b, v, w, u, u', f, g, r, hu0, ra, rb, rv, rw', h => by
    have hu : A.units < cLine := by omega
    have P := vwAt I ra rv
    have Q := vwAt I rb rw'
    cases ea : vw a with
    | oth =>
      simp only [eqD, ea] at h
      cases h
    | seq t xs =>
      rw [ea] at P
      cases eb : vw b with
      | oth =>
        simp only [eqD, ea, eb] at h
        cases h
      | seq t' ys =>
        rw [eb] at Q
        have R := rcAt_of (A := A) I hu (fun a b v w u u' f g r ra rb rv rw' h => eqAt_of I n A.in1 a b v w u u' f g r (by show A.units + 1 + n < cLine; omega) ra rb rv rw' h) ra rb rv rw' h
        obtain ⟨l, e1⟩ : ∃ l, u = .ref l := by
          cases t
          · obtain ⟨l, _, _, _, q1, _⟩ := P
            exact ⟨l, q1⟩
          · obtain ⟨l, _, _, _, q1, _⟩ := P
            exact ⟨l, q1⟩
        obtain ⟨l', e2⟩ : ∃ l, u' = .ref l := by
          cases t'
          · obtain ⟨l, _, _, _, q1, _⟩ := Q
            exact ⟨l, q1⟩
          · obtain ⟨l, _, _, _, q1, _⟩ := Q
            exact ⟨l, q1⟩
        subst e1
        subst e2
        by_cases e : l = l'
        · subst e
          rw [eqD_same I (n + 1) a b v w (.ref l) f g r ra rb rv rw' h]
          exact SeqAt.EqAt.same _
        · exact SeqAt.EqAt.of_refs e R
      | non =>
        rw [eb] at Q
        simp only [eqD, ea, eb] at h
        injection h with h
        subst h
        simp only [VwAt] at Q
        subst Q
        cases t
        · obtain ⟨l, its, vs, fp, q1, q2, q3, q4⟩ := P
          subst q1
          exact SeqAt.EqAt.list_none q2 hu
        · obtain ⟨l, its, vs, fp, q1, q2, q3, q4⟩ := P
          subst q1
          exact SeqAt.EqAt.tuple_none q2 hu
      | bl p =>
        rw [eb] at Q
        simp only [eqD, ea, eb] at h
        injection h with h
        subst h
        simp only [VwAt] at Q
        subst Q
        cases t
        · obtain ⟨l, its, vs, fp, q1, q2, q3, q4⟩ := P
          subst q1
          exact SeqAt.EqAt.list_bool _ q2 hu
        · obtain ⟨l, its, vs, fp, q1, q2, q3, q4⟩ := P
          subst q1
          exact SeqAt.EqAt.tuple_bool _ q2 hu
      | int p =>
        rw [eb] at Q
        simp only [eqD, ea, eb] at h
        injection h with h
        subst h
        simp only [VwAt] at Q
        obtain ⟨_, Q⟩ := Q
        subst Q
        cases t
        · obtain ⟨l, its, vs, fp, q1, q2, q3, q4⟩ := P
          subst q1
          exact SeqAt.EqAt.list_int _ _ q2 hu
        · obtain ⟨l, its, vs, fp, q1, q2, q3, q4⟩ := P
          subst q1
          exact SeqAt.EqAt.tuple_int _ _ q2 hu
      | str p =>
        rw [eb] at Q
        simp only [eqD, ea, eb] at h
        injection h with h
        subst h
        simp only [VwAt] at Q
        obtain ⟨_, Q⟩ := Q
        subst Q
        cases t
        · obtain ⟨l, its, vs, fp, q1, q2, q3, q4⟩ := P
          subst q1
          exact SeqAt.EqAt.list_str _ _ q2 hu
        · obtain ⟨l, its, vs, fp, q1, q2, q3, q4⟩ := P
          subst q1
          exact SeqAt.EqAt.tuple_str _ _ q2 hu
    | non =>
      rw [ea] at P
      simp only [VwAt] at P
      subst P
      cases eb : vw b with
      | oth =>
        simp only [eqD, ea, eb] at h
        cases h
      | seq t ys =>
        rw [eb] at Q
        simp only [eqD, ea, eb] at h
        injection h with h
        subst h
        cases t
        · obtain ⟨l, its, vs, fp, q1, q2, q3, q4⟩ := Q
          subst q1
          exact SeqAt.EqAt.none_list q2 hu
        · obtain ⟨l, its, vs, fp, q1, q2, q3, q4⟩ := Q
          subst q1
          exact SeqAt.EqAt.none_tuple q2 hu
      | non =>
        rw [eb] at Q
        simp only [eqD, ea, eb] at h
        injection h with h
        subst h
        simp only [VwAt] at Q
        subst Q
        exact SeqAt.EqAt.same _
      | bl q =>
        rw [eb] at Q
        simp only [eqD, ea, eb] at h
        injection h with h
        subst h
        simp only [VwAt] at Q
        subst Q
        exact SeqAt.EqAt.none_bool _
      | int q =>
        rw [eb] at Q
        simp only [eqD, ea, eb] at h
        injection h with h
        subst h
        simp only [VwAt] at Q
        obtain ⟨_, Q⟩ := Q
        subst Q
        exact SeqAt.EqAt.none_int _ _
      | str q =>
        rw [eb] at Q
        simp only [eqD, ea, eb] at h
        injection h with h
        subst h
        simp only [VwAt] at Q
        obtain ⟨_, Q⟩ := Q
        subst Q
        exact SeqAt.EqAt.none_str _ _
    | bl p =>
      rw [ea] at P
      simp only [VwAt] at P
      subst P
      cases eb : vw b with
      | oth =>
        simp only [eqD, ea, eb] at h
        cases h
      | seq t ys =>
        rw [eb] at Q
        simp only [eqD, ea, eb] at h
        injection h with h
        subst h
        cases t
        · obtain ⟨l, its, vs, fp, q1, q2, q3, q4⟩ := Q
          subst q1
          exact SeqAt.EqAt.bool_list _ q2 hu
        · obtain ⟨l, its, vs, fp, q1, q2, q3, q4⟩ := Q
          subst q1
          exact SeqAt.EqAt.bool_tuple _ q2 hu
      | non =>
        rw [eb] at Q
        simp only [eqD, ea, eb] at h
        injection h with h
        subst h
        simp only [VwAt] at Q
        subst Q
        exact SeqAt.EqAt.bool_none _
      | bl q =>
        rw [eb] at Q
        simp only [eqD, ea, eb] at h
        injection h with h
        subst h
        simp only [VwAt] at Q
        subst Q
        exact SeqAt.EqAt.bool_bool _ _
      | int q =>
        rw [eb] at Q
        simp only [eqD, ea, eb] at h
        injection h with h
        subst h
        simp only [VwAt] at Q
        obtain ⟨_, Q⟩ := Q
        subst Q
        exact SeqAt.EqAt.bool_int _ _ _
      | str q =>
        rw [eb] at Q
        simp only [eqD, ea, eb] at h
        injection h with h
        subst h
        simp only [VwAt] at Q
        obtain ⟨_, Q⟩ := Q
        subst Q
        exact SeqAt.EqAt.bool_str _ _ _
    | int p =>
      rw [ea] at P
      simp only [VwAt] at P
      obtain ⟨_, P⟩ := P
      subst P
      cases eb : vw b with
      | oth =>
        simp only [eqD, ea, eb] at h
        cases h
      | seq t ys =>
        rw [eb] at Q
        simp only [eqD, ea, eb] at h
        injection h with h
        subst h
        cases t
        · obtain ⟨l, its, vs, fp, q1, q2, q3, q4⟩ := Q
          subst q1
          exact SeqAt.EqAt.int_list _ _ q2 hu
        · obtain ⟨l, its, vs, fp, q1, q2, q3, q4⟩ := Q
          subst q1
          exact SeqAt.EqAt.int_tuple _ _ q2 hu
      | non =>
        rw [eb] at Q
        simp only [eqD, ea, eb] at h
        injection h with h
        subst h
        simp only [VwAt] at Q
        subst Q
        exact SeqAt.EqAt.int_none _ _
      | bl q =>
        rw [eb] at Q
        simp only [eqD, ea, eb] at h
        injection h with h
        subst h
        simp only [VwAt] at Q
        subst Q
        exact SeqAt.EqAt.int_bool _ _ _
      | int q =>
        rw [eb] at Q
        simp only [eqD, ea, eb] at h
        injection h with h
        subst h
        simp only [VwAt] at Q
        obtain ⟨_, Q⟩ := Q
        subst Q
        exact SeqAt.EqAt.int_int _ _ _ _
      | str q =>
        rw [eb] at Q
        simp only [eqD, ea, eb] at h
        injection h with h
        subst h
        simp only [VwAt] at Q
        obtain ⟨_, Q⟩ := Q
        subst Q
        exact SeqAt.EqAt.int_str _ _ _ _
    | str p =>
      rw [ea] at P
      simp only [VwAt] at P
      obtain ⟨_, P⟩ := P
      subst P
      cases eb : vw b with
      | oth =>
        simp only [eqD, ea, eb] at h
        cases h
      | seq t ys =>
        rw [eb] at Q
        simp only [eqD, ea, eb] at h
        injection h with h
        subst h
        cases t
        · obtain ⟨l, its, vs, fp, q1, q2, q3, q4⟩ := Q
          subst q1
          exact SeqAt.EqAt.str_list _ _ q2 hu
        · obtain ⟨l, its, vs, fp, q1, q2, q3, q4⟩ := Q
          subst q1
          exact SeqAt.EqAt.str_tuple _ _ q2 hu
      | non =>
        rw [eb] at Q
        simp only [eqD, ea, eb] at h
        injection h with h
        subst h
        simp only [VwAt] at Q
        subst Q
        exact SeqAt.EqAt.str_none _ _
      | bl q =>
        rw [eb] at Q
        simp only [eqD, ea, eb] at h
        injection h with h
        subst h
        simp only [VwAt] at Q
        subst Q
        exact SeqAt.EqAt.str_bool _ _ _
      | int q =>
        rw [eb] at Q
        simp only [eqD, ea, eb] at h
        injection h with h
        subst h
        simp only [VwAt] at Q
        obtain ⟨_, Q⟩ := Q
        subst Q
        exact SeqAt.EqAt.str_int _ _ _ _
      | str q =>
        rw [eb] at Q
        simp only [eqD, ea, eb] at h
        injection h with h
        subst h
        simp only [VwAt] at Q
        obtain ⟨_, Q⟩ := Q
        subst Q
        rw [mkS_dec]
        exact SeqAt.EqAt.str_str _ _ _ _
def eqF (a b : Dat) : Res Bool := eqD 20 a b
theorem rcAt_ok (I : Inv X pins σ H s) {A : Around} (hu : A.units + 64 < cLine) {a b : Dat} {v w : V} {u u' : Value} {f g : List Addr} {r : Bool} (ra : Rep (glo X) H a v f) (rb : Rep (glo X) H b w g) (rv : RelV v u) (rw' : RelV w u') (h : eqF a b = .ok r) : SeqAt.RcAt A s u u' r :=
  rcAt_of (n := 19) I (by omega) (fun a b v w u u' f g r ra rb rv rw' h => eqAt_of I 19 A.in1 a b v w u u' f g r (by show A.units + 1 + 19 < cLine; omega) ra rb rv rw' h) ra rb rv rw' h
theorem rcNeAt_ok (I : Inv X pins σ H s) {A : Around} (hu : A.units + 64 < cLine) {a b : Dat} {v w : V} {u u' : Value} {f g : List Addr} {r : Bool} (ra : Rep (glo X) H a v f) (rb : Rep (glo X) H b w g) (rv : RelV v u) (rw' : RelV w u') (h : eqF a b = .ok r) : SeqAt.RcNeAt A s u u' (!r) :=
  rcNeAt_of (n := 19) I (by omega) (fun a b v w u u' f g r ra rb rv rw' h => eqAt_of I 19 A.in1 a b v w u u' f g r (by show A.units + 1 + 19 < cLine; omega) ra rb rv rw' h) ra rb rv rw' h
theorem eqAt_ok (I : Inv X pins σ H s) {A : Around} (hu : A.units + 63 < cLine) {a b : Dat} {v w : V} {u u' : Value} {f g : List Addr} {r : Bool} (ra : Rep (glo X) H a v f) (rb : Rep (glo X) H b w g) (rv : RelV v u) (rw' : RelV w u') (h : eqF a b = .ok r) : SeqAt.EqAt A s u u' r :=
  eqAt_of I 20 A a b v w u u' f g r (by omega) ra rb rv rw' h
theorem eqL_cons {f : Dat → Dat → Res Bool} {x y : Dat} {xs ys : List Dat} {r : Bool} (h : eqL f (x :: xs) (y :: ys) = .ok r) : ∃ b c, f x y = .ok b ∧ eqL f xs ys = .ok c ∧ r = (b && c) := by
  simp only [eqL] at h
  cases e1 : f x y with
  | no =>
    rw [e1] at h
    cases h
  | exc c =>
    rw [e1] at h
    cases h
  | ok b =>
    cases e2 : eqL f xs ys with
    | no =>
      rw [e1, e2] at h
      cases h
    | exc c =>
      rw [e1, e2] at h
      cases h
    | ok c =>
      rw [e1, e2] at h
      have h : Res.ok (b && c) = Res.ok r := h
      injection h with h
      exact ⟨b, c, rfl, rfl, h.symm⟩
/-- one value, two data: both answer alike -/
theorem eqD_cong (I : Inv X pins σ H s) : ∀ (n : Nat) (a b z : Dat) (v w : V) (u : Value) (f g : List Addr) (r r' : Bool), Rep (glo X) H a v f → Rep (glo X) H b w g → RelV v u → RelV w u → eqD n a z = .ok r → eqD n b z = .ok r' → r = r'
  | 0, _, _, _, _, _, _, _, _, _, _, _, _, _, _, h, _ => by cases h
  | n + 1, a, b, z, v, w, u, f, g, r, r', ra, rb, rv, rw', h, h' => by
    have A := vwAt I ra rv
    have B := vwAt I rb rw'
    have L : ∀ (xs ys zs : List Dat) (vs ws : List V) (us : List Value) (f g : List Addr) (r r' : Bool), RepL (glo X) H xs vs f → RepL (glo X) H ys ws g → Vals vs us → Vals ws us → eqL (eqD n) xs zs = .ok r → eqL (eqD n) ys zs = .ok r' → r = r' := by
      intro xs
      induction xs with
      | nil =>
        intro ys zs vs ws us f g r r' h1 h2 h3 h4 h5 h6
        have l1 := h1.len
        have l2 := h2.len
        have l3 := h3.length
        have l4 := h4.length
        cases ys with
        | nil =>
          rw [h5] at h6
          injection h6
        | cons y ys =>
          simp only [List.length_nil, List.length_cons] at l1 l2
          omega
      | cons x xs ih =>
        intro ys zs vs ws us f g r r' h1 h2 h3 h4 h5 h6
        cases ys with
        | nil =>
          have l1 := h1.len
          have l2 := h2.len
          have l3 := h3.length
          have l4 := h4.length
          simp only [List.length_nil, List.length_cons] at l1 l2
          omega
        | cons y ys =>
          cases zs with
          | nil =>
            simp only [eqL] at h5 h6
            injection h5 with h5
            injection h6 with h6
            rw [← h5, ← h6]
          | cons z zs =>
            simp only [RepL] at h1 h2
            obtain ⟨v1, vs1, f1, f1', e1, e2, r1, rr1⟩ := h1
            obtain ⟨w1, ws1, g1, g1', e3, e4, r2, rr2⟩ := h2
            subst e1
            subst e3
            cases h3 with
            | cons p ps =>
              cases h4 with
              | cons q qs =>
                obtain ⟨b1, c1, k1, k2, k3⟩ := eqL_cons h5
                obtain ⟨b2, c2, m1, m2, m3⟩ := eqL_cons h6
                rw [k3, m3, eqD_cong I n x y z v1 w1 _ f1 g1 b1 b2 r1 r2 p q k1 m1, ih ys zs vs1 ws1 _ _ _ c1 c2 rr1 rr2 ps qs k2 m2]
    have na : wt (vw a) ≠ 8 := fun e => by
      cases ea : vw a <;> rw [ea] at e <;> simp [wt] at e
      simp only [eqD, ea] at h
      cases h
    have nb : wt (vw b) ≠ 8 := fun e => by
      cases eb : vw b <;> rw [eb] at e <;> simp [wt] at e
      simp only [eqD, eb] at h'
      cases h'
    have t := A.two B na nb
    by_cases hs : ∃ t xs, vw a = .seq t xs
    · obtain ⟨t1, xs, ea⟩ := hs
      obtain ⟨t2, ys, eb⟩ : ∃ t ys, vw b = .seq t ys := by
        cases eb : vw b <;> rw [ea, eb] at t <;> simp [wt] at t
        exact ⟨_, _, rfl⟩
      rw [ea] at A
      rw [eb] at B
      have ht : t1 = t2 := by
        cases t1 <;> cases t2 <;> first | rfl | skip
        all_goals
          exfalso
          obtain ⟨l, its, vs, fp, q1, q2, q3, q4⟩ := A
          obtain ⟨l', its', vs', fp', p1, p2, p3, p4⟩ := B
          subst q1
          injection p1 with p1
          subst p1
          obtain ⟨o, o1, o2, m, o3⟩ := q2
          obtain ⟨o', o1', o2', m', o3'⟩ := p2
          rw [o1] at o1'
          cases o1'
          rw [o2] at o2'
          simp at o2'
      subst ht
      have sub : ∃ (vs vs' : List V) (us : List Value) (f g : List Addr), RepL (glo X) H xs vs f ∧ RepL (glo X) H ys vs' g ∧ Vals vs us ∧ Vals vs' us := by
        cases t1
        all_goals
          obtain ⟨l, its, vs, fp, q1, q2, q3, q4⟩ := A
          obtain ⟨l', its', vs', fp', p1, p2, p3, p4⟩ := B
          subst q1
          injection p1 with p1
          subst p1
          obtain ⟨o, o1, o2, m, o3⟩ := q2
          obtain ⟨o', o1', o2', m', o3'⟩ := p2
          rw [o1] at o1'
          cases o1'
          rw [o3] at o3'
          injection o3' with o3' _
          subst o3'
          exact ⟨vs, vs', _, fp, fp', q4, p4, q3, p3⟩
      obtain ⟨vs, vs', us, f1, g1, s1, s2, s3, s4⟩ := sub
      simp only [eqD, ea] at h
      simp only [eqD, eb] at h'
      cases ez : vw z with
      | seq tz zs =>
        simp only [ez] at h h'
        by_cases e : t1 = tz
        · rw [if_pos e] at h h'
          exact L _ _ _ _ _ _ _ _ _ _ s1 s2 s3 s4 h h'
        · rw [if_neg e] at h h'
          injection h with h
          injection h' with h'
          rw [← h, ← h']
      | oth =>
        simp only [ez] at h
        cases h
      | _ =>
        simp only [ez] at h h'
        injection h with h
        injection h' with h'
        rw [← h, ← h']
    · have e : vw a = vw b := by
        cases ea : vw a with
        | seq t xs => exact absurd ⟨t, xs, ea⟩ hs
        | oth =>
          rw [ea] at na
          simp [wt] at na
        | non =>
          rw [ea] at t
          cases eb : vw b <;> rw [eb] at t <;> simp [wt] at t
          all_goals rfl
        | bl x =>
          rw [ea] at t A
          cases eb : vw b <;> rw [eb] at t B <;> simp [wt] at t
          simp only [VwAt] at A B
          subst A
          injection B with B
          rw [B]
        | int x =>
          rw [ea] at t A
          cases eb : vw b <;> rw [eb] at t B <;> simp [wt] at t
          simp only [VwAt] at A B
          obtain ⟨_, A⟩ := A
          obtain ⟨_, B⟩ := B
          subst A
          injection B with B _
          rw [B]
        | str x =>
          rw [ea] at t A
          cases eb : vw b <;> rw [eb] at t B <;> simp [wt] at t
          simp only [VwAt] at A B
          obtain ⟨_, A⟩ := A
          obtain ⟨_, B⟩ := B
          subst A
          injection B with B _
          rw [mkS_inj B]
      have : eqD (n + 1) a z = eqD (n + 1) b z := by simp only [eqD, e]
      rw [this, h'] at h
      injection h with h
      exact h.symm
end
end PV

/-! PV4: operators, comparisons, subscripts over pure data. -/
namespace PV
open PySem PySem.Spec L2

/-- what a context must be -/
structure XOk (k : Nat) (X : Cx) : Prop where
  calm : X.calm = true
  nd : X.N.Nodup
  hr : Room k X.A
theorem XOk.hu {k : Nat} {X : Cx} (C : XOk k X) : X.A.units + 1 < cLine := hu_of C.hr
theorem XOk.u64 {k : Nat} {X : Cx} (C : XOk k X) : X.A.units + 64 < cLine := C.hr.units
theorem XOk.u65 {k : Nat} {X : Cx} (C : XOk k X) : X.A.units + 65 < cLine := by
  have := C.hr.un
  omega

section
variable {X : Cx} {W : WX} {k : Nat}
theorem pe_orE {e : Expr} {t u : TE} (a : PE X e t) (b : PE X e u) : PE X e (fun σ H Q => t σ H Q ∨ u σ H Q) :=
  ⟨fun pins s σ H Q I h => h.elim (a.run pins s σ H Q I) (b.run pins s σ H Q I)⟩
/-- by values, at data -/
def OpS (X : Cx) (r : R2) (g : Rs → Rs → Res Rs) : Prop := ∀ (W : WX) (H0 H : Hp) (F : Fp) (σ : L2.St) (ra rb : Rs) (x y : V) (fa fb : List Addr) (Q : VK),
  Same H0 H → (∀ i, ∀ a ∈ F i, H0 a ≠ none) → Gv (glo X) H0 F ra x H fa → Gv (glo X) H0 F rb y H fb → Out X W H0 H F σ (g ra rb) Q → r x y H Q
def fBin (g : Rs → Rs → Res Rs) (fa fb : Sto → Res Rs) : Sto → Res Rs := fun E => (fa E).bind fun ra => (fb E).bind fun rb => g ra rb
theorem ev_bin2 {a b e : Expr} {r : R2} {g : Rs → Rs → Res Rs} {fa fb : Sto → Res Rs} (hg : OpS X r g) (p : ∀ {ta tb : TE}, PE X a ta → PE X b tb → PE X e (tOp r ta tb)) (ha : Ev X W a fa) (hb : Ev X W b fb) : Ev X W e (fBin g fa fb) := by
  refine ⟨weakE (p ha.pe hb.pe) fun σ H Q ⟨E, F, re, o⟩ => ?_⟩
  refine seqE re (Same.refl H) o fun ra x H1 f1 e1 s1 g1 o1 => ?_
  refine seqE (re.same s1) s1 o1 fun rb y H2 f2 e2 s2 g2 o2 => ?_
  exact hg W H H2 F σ ra rb x y f1 f2 Q (s1.trans s2) (fun i => re.trk i) (g1.same s2) g2 o2
theorem ev_op {a b : Expr} {op : Operator} {pos : Pos} {r : R2} {g : Rs → Rs → Res Rs} {fa fb : Sto → Res Rs} (ho : OpR X (binaryOp op) r) (hg : OpS X r g) (ha : Ev X W a fa) (hb : Ev X W b fb) : Ev X W (.BinOp a op b pos) (fBin g fa fb) :=
  ev_bin2 hg (fun p q => pe_op ho p q) ha hb
theorem ev_cmp {a b : Expr} {op : CmpOp} {pos : Pos} {r : R2} {g : Rs → Rs → Res Rs} {fa fb : Sto → Res Rs} (ho : OpR X (compareOp op) r) (hg : OpS X r g) (ha : Ev X W a fa) (hb : Ev X W b fb) (hm : behindInMarks op b = false) : Ev X W (.Compare a [op] [b] pos) (fBin g fa fb) :=
  ev_bin2 hg (fun p q => pe_cmpR ho p q hm) ha hb

theorem rep_int {G : Glo} {H : Hp} {i : Int} {v : V} {f : List Addr} (r : Rep G H (.int i) v f) : v = .int i := by
  simp only [Rep] at r
  exact r.1
theorem rep_str {G : Glo} {H : Hp} {x : Tx} {v : V} {f : List Addr} (r : Rep G H (.str x) v f) : v = .str (mkS x) := by
  simp only [Rep] at r
  exact r.1
theorem rep_bl {G : Glo} {H : Hp} {x : Bool} {v : V} {f : List Addr} (r : Rep G H (.bl x) v f) : v = .bl x := by
  simp only [Rep] at r
  exact r.1
theorem rep_non {G : Glo} {H : Hp} {v : V} {f : List Addr} (r : Rep G H .non v f) : v = .non := by
  simp only [Rep] at r
  exact r.1
theorem rep_lst {G : Glo} {H : Hp} {xs : List Dat} {v : V} {f : List Addr} (r : Rep G H (.lst xs) v f) : ∃ a vs f', v = .ref a ∧ H a = some (.lst vs) ∧ RepL G H xs vs f' ∧ f = a :: f' := by
  simpa only [Rep] using r
theorem mk_int {G : Glo} {H : Hp} {i : Int} : Rep G H (.int i) (.int i) [] := by simp [Rep]
theorem mk_bl {G : Glo} {H : Hp} {i : Bool} : Rep G H (.bl i) (.bl i) [] := by simp [Rep]
theorem mk_non {G : Glo} {H : Hp} : Rep G H .non .non [] := by simp [Rep]
theorem mk_str {G : Glo} {H : Hp} {x : Tx} : Rep G H (.str x) (.str (mkS x)) [] := by simp [Rep]
theorem mkS_app (x y : Tx) : mkS x ++ mkS y = mkS (x ++ y) := by
  show Str.append _ _ = _
  unfold Str.append mkS
  simp

/-- a new list -/
theorem Gv.newL {G : Glo} {H0 H : Hp} {F : Fp} {xs : List Dat} {vs : List V} {fp : List Addr} {p : Addr} {src : List Nat} (s : Same H0 H) (r : RepL G H xs vs fp) (hp : H p = none) (hs : ∀ a ∈ fp, H0 a = none ∨ ∃ i ∈ src, a ∈ F i) :
    Gv G H0 F ⟨.lst xs, true, src, if flatL xs then some [] else none⟩ (.ref p) (upd H p (.lst vs)) (p :: fp) := by
  have nfp : p ∉ fp := fun z => RepL.trk _ _ _ r p z hp
  have wp : Wr (upd H p (.lst vs)) p := ⟨_, upd_same, rfl⟩
  refine ⟨?_, fun a ha => ?_, fun _ => ⟨p, fp, rfl, s.free hp, wp, nfp⟩, fun m em => ?_⟩
  · simp only [Rep]
    exact ⟨p, vs, fp, rfl, upd_same, r.same (same_new hp), rfl⟩
  · rcases List.mem_cons.mp ha with z | z
    · rw [z]
      exact .inl (s.free hp)
    · exact hs a z
  · by_cases hf : flatL xs = true
    · rw [if_pos hf] at em
      injection em with em
      subst em
      have := RepL.flat _ _ _ r hf
      subst this
      refine ⟨[p], by simp, by simp, fun a ha => ?_⟩
      have : a = p := by simpa using ha
      subst this
      exact ⟨s.free hp, wp⟩
    · rw [if_neg hf] at em
      cases em
def rNewL (xs : List Dat) (src : List Nat) : Rs := ⟨.lst xs, true, src, if flatL xs then some [] else none⟩

/-! ### numbers, texts, lists: + - * // % ** -/
def gAdd (ra rb : Rs) : Res Rs := match ra.d, rb.d with
  | .int i, .int j => .ok (rsF (.int (i + j)))
  | .str x, .str y => if x.length + y.length ≤ 1000000 then .ok (rsF (.str (x ++ y))) else .no
  | .lst xs, .lst ys => if xs.length + ys.length ≤ 1000000 then .ok (rNewL (xs ++ ys) (ra.src ++ rb.src)) else .no
  | _, _ => .no
abbrev rAddA : R2 := fun x y H Q => ((rI0 fun i j => .int (i + j)) x y H Q ∨ (∃ i j, x = .str i ∧ y = .str j ∧ i.length + j.length ≤ sizeLine ∧ Q (.str (i ++ j)) H)) ∨ rCat x y H Q
theorem op_addA : OpR X (binaryOp .Add) rAddA := OpR.or (OpR.or op_add op_add_str) op_cat
theorem ops_add : OpS X rAddA gAdd := by
  intro W H0 H F σ ra rb x y fa fb Q s0 tr ga gb o
  have pa := ga.rep
  have pb := gb.rep
  unfold gAdd at o
  cases ea : ra.d <;> cases eb : rb.d <;> simp only [ea, eb] at o <;> first | exact o.elim | skip
  · rw [ea] at pa
    rw [eb] at pb
    rw [rep_int pa, rep_int pb]
    exact .inl (.inl ⟨_, _, rfl, rfl, o.flat mk_int⟩)
  · rename_i xa ya
    rw [ea] at pa
    rw [eb] at pb
    by_cases h : xa.length + ya.length ≤ 1000000
    · rw [if_pos h] at o
      rw [rep_str pa, rep_str pb]
      refine .inl (.inr ⟨_, _, rfl, rfl, by rw [mkS_len, mkS_len]; exact sizeLine_le h, ?_⟩)
      rw [mkS_app]
      exact o.flat mk_str
    · rw [if_neg h] at o
      exact o.elim
  · rename_i xa ya
    rw [ea] at pa
    rw [eb] at pb
    by_cases h : xa.length + ya.length ≤ 1000000
    · rw [if_pos h] at o
      obtain ⟨a, va, f1, e1, h1, r1, z1⟩ := rep_lst pa
      obtain ⟨b, vb, f2, e2, h2, r2, z2⟩ := rep_lst pb
      refine .inr ⟨a, b, va, vb, e1, e2, h1, h2, by rw [r1.len, r2.len]; exact sizeLine_le h, fun p hp => ?_⟩
      have hs : ∀ c ∈ f1 ++ f2, H0 c = none ∨ ∃ i ∈ ra.src ++ rb.src, c ∈ F i := by
        intro c hc
        rcases List.mem_append.mp hc with q | q
        · exact (ga.prv.src c (by simp [z1, q])).imp id fun ⟨i, hi, w⟩ => ⟨i, by simp [hi], w⟩
        · exact (gb.prv.src c (by simp [z2, q])).imp id fun ⟨i, hi, w⟩ => ⟨i, by simp [hi], w⟩
      exact o _ _ _ (same_new hp) (Gv.newL s0 (r1.app r2) hp hs)
    · rw [if_neg h] at o
      exact o.elim
theorem ev_add {a b : Expr} {pos : Pos} {fa fb : Sto → Res Rs} (ha : Ev X W a fa) (hb : Ev X W b fb) : Ev X W (.BinOp a .Add b pos) (fBin gAdd fa fb) := ev_op op_addA ops_add ha hb
/-- two ints -/
def gI (C : Int → Int → Bool) (g : Int → Int → Dat) (ra rb : Rs) : Res Rs := match ra.d, rb.d with
  | .int i, .int j => if C i j then .ok (rsF (g i j)) else .no
  | _, _ => .no
theorem ops_I {C : Int → Int → Bool} {P : Int → Int → Prop} {g : Int → Int → V} {d : Int → Int → Dat} (hC : ∀ i j, C i j = true → P i j) (hd : ∀ G H i j, Rep G H (d i j) (g i j) []) : OpS X (rI P g) (gI C d) := by
  intro W H0 H F σ ra rb x y fa fb Q s0 tr ga gb o
  have pa := ga.rep
  have pb := gb.rep
  unfold gI at o
  cases ea : ra.d <;> cases eb : rb.d <;> simp only [ea, eb] at o <;> first | exact o.elim | skip
  rename_i i j
  rw [ea] at pa
  rw [eb] at pb
  by_cases h : C i j = true
  · rw [if_pos h] at o
    exact ⟨i, j, rep_int pa, rep_int pb, hC i j h, o.flat (hd _ _ i j)⟩
  · rw [if_neg h] at o
    exact o.elim
theorem ops_I0 {g : Int → Int → V} {d : Int → Int → Dat} (hd : ∀ G H i j, Rep G H (d i j) (g i j) []) : OpS X (rI0 g) (gI (fun _ _ => true) d) := by
  intro W H0 H F σ ra rb x y fa fb Q s0 tr ga gb o
  have pa := ga.rep
  have pb := gb.rep
  unfold gI at o
  cases ea : ra.d <;> cases eb : rb.d <;> simp only [ea, eb] at o <;> first | exact o.elim | skip
  rename_i i j
  rw [ea] at pa
  rw [eb] at pb
  rw [if_pos trivial] at o
  exact ⟨i, j, rep_int pa, rep_int pb, o.flat (hd _ _ i j)⟩
def gSub : Rs → Rs → Res Rs := gI (fun _ _ => true) fun i j => .int (i - j)
theorem ev_subI {a b : Expr} {pos : Pos} {fa fb : Sto → Res Rs} (ha : Ev X W a fa) (hb : Ev X W b fb) : Ev X W (.BinOp a .Sub b pos) (fBin gSub fa fb) := ev_op op_sub (ops_I0 fun _ _ _ _ => mk_int) ha hb
def cMod (_ j : Int) : Bool := decide (0 < j)
def gMod : Rs → Rs → Res Rs := gI cMod fun i j => .int (i % j)
theorem ev_mod {a b : Expr} {pos : Pos} {fa fb : Sto → Res Rs} (ha : Ev X W a fa) (hb : Ev X W b fb) : Ev X W (.BinOp a .Mod b pos) (fBin gMod fa fb) :=
  ev_op op_mod (ops_I (fun i j h => by simpa [cMod] using h) fun _ _ _ _ => mk_int) ha hb
def cFdv (_ j : Int) : Bool := decide (0 < j) && decide (j < 1073741824)
def gFdv : Rs → Rs → Res Rs := gI cFdv fun i j => .int (i / j)
theorem ev_fdv {a b : Expr} {pos : Pos} {fa fb : Sto → Res Rs} (ha : Ev X W a fa) (hb : Ev X W b fb) : Ev X W (.BinOp a .FloorDiv b pos) (fBin gFdv fa fb) :=
  ev_op op_fdiv (ops_I (fun i j h => by simp [cFdv] at h; exact ⟨h.1, h.2⟩) fun _ _ _ _ => mk_int) ha hb
def cPow (i j : Int) : Bool := decide (0 ≤ j) && decide (j ≤ 1000000) && decide (i.natAbs < 2 ^ 64)
def gPow : Rs → Rs → Res Rs := gI cPow fun i j => .int (i ^ j.toNat)
theorem ev_pow {a b : Expr} {pos : Pos} {fa fb : Sto → Res Rs} (ha : Ev X W a fa) (hb : Ev X W b fb) : Ev X W (.BinOp a .Pow b pos) (fBin gPow fa fb) :=
  ev_op op_pow (ops_I (fun i j h => by
    unfold cPow at h
    simp only [Bool.and_eq_true, decide_eq_true_eq] at h
    exact ⟨h.1.1, h.1.2, h.2⟩) fun _ _ _ _ => mk_int) ha hb
/-! a text so many times -/
theorem foldl_reps (x : Array Nat) : ∀ (n : Nat) (acc : Array Nat), ((List.replicate n x).foldl (· ++ ·) acc).toList = acc.toList ++ (List.replicate n x.toList).flatten
  | 0, acc => by simp
  | n + 1, acc => by
    rw [List.replicate_succ, List.foldl_cons, foldl_reps x n (acc ++ x), List.replicate_succ, List.flatten_cons]
    simp
theorem mul_txt (x : Tx) (n : Int) : Txt.mul (mkS x) n = mkS (List.replicate n.toNat x).flatten := by
  unfold Txt.mul
  by_cases h : n < 1
  · have e : n.toNat = 0 := by omega
    rw [if_pos h, e]
    rfl
  · rw [if_neg h]
    by_cases h2 : (n == 1 || (mkS x).length == 0) = true
    · rw [if_pos h2]
      rcases Bool.or_eq_true_iff.mp h2 with q | q
      · have e : n = 1 := by simpa using q
        subst e
        show mkS x = mkS (List.replicate 1 x).flatten
        simp
      · have e : x = [] := by
          rw [mkS_len] at q
          simpa using q
        subst e
        simp
    · rw [if_neg h2]
      have e := foldl_reps x.toArray n.toNat #[]
      show (⟨_⟩ : Str) = ⟨_⟩
      have e2 : ((List.replicate n.toNat (mkS x).cps).foldl (· ++ ·) #[]) = (List.replicate n.toNat x).flatten.toArray := by
        apply Array.toList_inj.mp
        rw [show (mkS x).cps = x.toArray from rfl, e]
        simp
      rw [e2]
theorem op_mul_str : OpR X (binaryOp .Mult) (fun x y H Q => ∃ (z : Str) (i : Int), x = .str z ∧ y = .int i ∧ MulOk z i ∧ Q (.str (Txt.mul z i)) H) := by
  intro pins s σ H x y v u Q I rx ry h
  obtain ⟨z, i, rfl, rfl, hc, q⟩ := h
  obtain ⟨t, rfl⟩ := rx
  obtain ⟨t', rfl⟩ := ry
  exact SB.mul hc fun t2 k => ⟨.str _, H, I.tok _, ⟨_, rfl⟩, q⟩
theorem mulOk_of {z : Str} {i : Int} (h1 : -1000000 ≤ i) (h2 : i ≤ 1000000) (h3 : z.length * i.toNat ≤ 1000000) : MulOk z i := by
  refine ⟨by simp; omega, fun h _ => ?_, fun h _ => ?_⟩
  · have hi : (0 : Int) < i := by omega
    have : (z.length : Int) * i ≤ 1000000 := by
      have e : ((z.length * i.toNat : Nat) : Int) = (z.length : Int) * i := by
        rw [Int.natCast_mul, Int.toNat_of_nonneg (by omega)]
      omega
    intro hh
    have h4 : (z.length : Int) * 1 ≤ (z.length : Int) * i := Int.mul_le_mul_of_nonneg_left (show (1 : Int) ≤ i by omega) (by omega)
    rw [Int.mul_one] at h4
    have h5 : (9223372036854775807 : Int) / i * i ≤ 9223372036854775807 := Int.ediv_mul_le _ (by omega)
    have h6 : (9223372036854775807 : Int) < ((9223372036854775807 : Int) / i + 1) * i := Int.lt_ediv_add_one_mul_self _ hi
    have h7 : ((9223372036854775807 : Int) / i + 1) * i ≤ (z.length : Int) * i := Int.mul_le_mul_of_nonneg_right (by
      have : (9223372036854775807 : Int) / i < z.length := hh
      omega) (by omega)
    omega
  · unfold Builtin.Str.tooLong
    have e : sizeLine = 16777216 := by decide
    simp only [decide_eq_false_iff_not, e]
    omega
def cMul (i j : Int) : Bool := decide ((Builtin.Int.intBits i : Int) + (Builtin.Int.intBits j : Int) ≤ 134217728)
def gMul (ra rb : Rs) : Res Rs := match ra.d, rb.d with
  | .int i, .int j => if cMul i j then .ok (rsF (.int (i * j))) else .no
  | .str x, .int j => if -1000000 ≤ j ∧ j ≤ 1000000 ∧ x.length * j.toNat ≤ 1000000 then .ok (rsF (.str (List.replicate j.toNat x).flatten)) else .no
  | .lst xs, .int j => if -1000000 ≤ j ∧ j ≤ 1000000 ∧ xs.length * j.toNat ≤ 1000000 ∧ flatL xs = true then .ok (rNewL (List.replicate j.toNat xs).flatten []) else .no
  | _, _ => .no
abbrev rMulA : R2 := fun x y H Q => ((rI CMulX fun i j => .int (i * j)) x y H Q ∨ (∃ (z : Str) (i : Int), x = .str z ∧ y = .int i ∧ MulOk z i ∧ Q (.str (Txt.mul z i)) H)) ∨ rRep x y H Q
theorem op_mulA : OpR X (binaryOp .Mult) rMulA := OpR.or (OpR.or op_mulX op_mul_str) op_rep
theorem repl_reps {G : Glo} {H : Hp} {xs : List Dat} {vs : List V} (r : RepL G H xs vs []) : ∀ n : Nat, RepL G H (List.replicate n xs).flatten (List.replicate n vs).flatten []
  | 0 => RepL.nil
  | n + 1 => by
    rw [List.replicate_succ, List.replicate_succ, List.flatten_cons, List.flatten_cons]
    exact r.app (repl_reps r n)
theorem ops_mul : OpS X rMulA gMul := by
  intro W H0 H F σ ra rb x y fa fb Q s0 tr ga gb o
  have pa := ga.rep
  have pb := gb.rep
  unfold gMul at o
  cases ea : ra.d <;> cases eb : rb.d <;> simp only [ea, eb] at o <;> first | exact o.elim | skip
  · rename_i i j
    rw [ea] at pa
    rw [eb] at pb
    by_cases h : cMul i j = true
    · rw [if_pos h] at o
      rw [rep_int pa, rep_int pb]
      exact .inl (.inl ⟨_, _, rfl, rfl, (by
        unfold cMul at h
        have h' := of_decide_eq_true h
        exact h'), o.flat mk_int⟩)
    · rw [if_neg h] at o
      exact o.elim
  · rename_i xa j
    rw [ea] at pa
    rw [eb] at pb
    by_cases h : -1000000 ≤ j ∧ j ≤ 1000000 ∧ xa.length * j.toNat ≤ 1000000
    · rw [if_pos h] at o
      rw [rep_str pa, rep_int pb]
      refine .inl (.inr ⟨_, _, rfl, rfl, mulOk_of h.1 h.2.1 (by rw [mkS_len]; exact h.2.2), ?_⟩)
      rw [mul_txt]
      exact o.flat mk_str
    · rw [if_neg h] at o
      exact o.elim
  · rename_i xa j
    rw [ea] at pa
    rw [eb] at pb
    by_cases h : -1000000 ≤ j ∧ j ≤ 1000000 ∧ xa.length * j.toNat ≤ 1000000 ∧ flatL xa = true
    · rw [if_pos h] at o
      obtain ⟨a, va, f1, e1, h1, r1, z1⟩ := rep_lst pa
      have ef := RepL.flat _ _ _ r1 h.2.2.2
      subst ef
      refine .inr ⟨a, j, va, e1, rep_int pb, h1, by omega, by omega, by rw [r1.len]; exact sizeLine_le h.2.2.1, fun p hp => ?_⟩
      exact o _ _ _ (same_new hp) (Gv.newL s0 (repl_reps r1 j.toNat) hp (fun _ z => nomatch z))
    · rw [if_neg h] at o
      exact o.elim
theorem ev_mul {a b : Expr} {pos : Pos} {fa fb : Sto → Res Rs} (ha : Ev X W a fa) (hb : Ev X W b fb) : Ev X W (.BinOp a .Mult b pos) (fBin gMul fa fb) := ev_op op_mulA ops_mul ha hb
def fNeg (f : Sto → Res Rs) : Sto → Res Rs := fun E => (f E).bind fun r => match r.d with
  | .int i => .ok (rsF (.int (-i)))
  | _ => .no
theorem ev_neg {a : Expr} {pos : Pos} {f : Sto → Res Rs} (ha : Ev X W a f) : Ev X W (.UnaryOp .USub a pos) (fNeg f) := by
  refine ⟨weakE (pe_un un_neg ha.pe) fun σ H Q ⟨E, F, re, o⟩ => ?_⟩
  refine seqE re (Same.refl H) o fun ra x H1 f1 e1 s1 g1 o1 => ?_
  have p := g1.rep
  cases ed : ra.d <;> simp only [ed] at o1 <;> first | exact o1.elim | skip
  rw [ed] at p
  exact ⟨_, rep_int p, o1.flat mk_int⟩

/-! ### comparisons -/
def gLt : Rs → Rs → Res Rs := gI (fun _ _ => true) fun i j => .bl (decide (i < j))
def gLe : Rs → Rs → Res Rs := gI (fun _ _ => true) fun i j => .bl (decide (i ≤ j))
def gGt : Rs → Rs → Res Rs := gI (fun _ _ => true) fun i j => .bl (decide (j < i))
def gGe : Rs → Rs → Res Rs := gI (fun _ _ => true) fun i j => .bl (decide (j ≤ i))
theorem ev_lt {a b : Expr} {pos : Pos} {fa fb : Sto → Res Rs} (ha : Ev X W a fa) (hb : Ev X W b fb) : Ev X W (.Compare a [.Lt] [b] pos) (fBin gLt fa fb) := ev_cmp op_lt (ops_I0 fun _ _ _ _ => mk_bl) ha hb (nomark _)
theorem ev_le {a b : Expr} {pos : Pos} {fa fb : Sto → Res Rs} (ha : Ev X W a fa) (hb : Ev X W b fb) : Ev X W (.Compare a [.LtE] [b] pos) (fBin gLe fa fb) := ev_cmp op_le (ops_I0 fun _ _ _ _ => mk_bl) ha hb (nomark _)
theorem ev_gt {a b : Expr} {pos : Pos} {fa fb : Sto → Res Rs} (ha : Ev X W a fa) (hb : Ev X W b fb) : Ev X W (.Compare a [.Gt] [b] pos) (fBin gGt fa fb) := ev_cmp op_gt (ops_I0 fun _ _ _ _ => mk_bl) ha hb (nomark _)
theorem ev_ge {a b : Expr} {pos : Pos} {fa fb : Sto → Res Rs} (ha : Ev X W a fa) (hb : Ev X W b fb) : Ev X W (.Compare a [.GtE] [b] pos) (fBin gGe fa fb) := ev_cmp op_ge (ops_I0 fun _ _ _ _ => mk_bl) ha hb (nomark _)
/-- == at any data but dicts and objects -/
abbrev rEqP (X : Cx) (neg : Bool) : R2 := fun x y H Q => ∃ a b f g r, Rep (glo X) H a x f ∧ Rep (glo X) H b y g ∧ eqF a b = .ok r ∧ Q (.bl (if neg then !r else r)) H
theorem op_eqP (C : XOk k X) : OpR X (compareOp .Eq) (rEqP X false) := by
  intro pins s σ H x y v u Q I rx ry h
  obtain ⟨a, b, f, g, r, ra, rb, e, q⟩ := h
  exact rcAt_ok I C.u64 ra rb rx ry e X.prog X.w X.xe _ ⟨.bl r, H, I, rfl, q⟩
theorem op_neP (C : XOk k X) : OpR X (compareOp .NotEq) (rEqP X true) := by
  intro pins s σ H x y v u Q I rx ry h
  obtain ⟨a, b, f, g, r, ra, rb, e, q⟩ := h
  exact rcNeAt_ok I C.u64 ra rb rx ry e X.prog X.w X.xe _ ⟨.bl (!r), H, I, rfl, q⟩
def gEq (ra rb : Rs) : Res Rs := (eqF ra.d rb.d).bind fun r => .ok (rsF (.bl r))
def gNe (ra rb : Rs) : Res Rs := (eqF ra.d rb.d).bind fun r => .ok (rsF (.bl (!r)))
theorem ops_eq : OpS X (rEqP X false) gEq := by
  intro W H0 H F σ ra rb x y fa fb Q s0 tr ga gb o
  unfold gEq at o
  cases e : eqF ra.d rb.d with
  | no =>
    rw [e] at o
    exact o.elim
  | exc c =>
    exfalso
    exact eqF_exc e
  | ok r =>
    rw [e] at o
    have o : Out X W H0 H F σ (.ok (rsF (.bl r))) Q := o
    exact ⟨_, _, _, _, r, ga.rep, gb.rep, e, o.flat mk_bl⟩
where
  eqL_exc {f : Dat → Dat → Res Bool} (h : ∀ a b c, f a b ≠ .exc c) : ∀ xs ys c, eqL f xs ys ≠ .exc c
    | [], [], _, e => by simp [eqL] at e
    | [], _ :: _, _, e => by simp [eqL] at e
    | _ :: _, [], _, e => by simp [eqL] at e
    | x :: xs, y :: ys, c, e => by
      simp only [eqL] at e
      cases e1 : f x y with
      | no =>
        rw [e1] at e
        cases e
      | exc c' => exact h x y c' e1
      | ok b =>
        rw [e1] at e
        cases e2 : eqL f xs ys with
        | no =>
          rw [e2] at e
          cases e
        | exc c' => exact eqL_exc h xs ys c' e2
        | ok b' =>
          rw [e2] at e
          cases e
  eqD_exc : ∀ n a b c, eqD n a b ≠ .exc c
    | 0, _, _, _, e => by cases e
    | n + 1, a, b, c, e => by
      cases ea : vw a <;> cases eb : vw b <;> simp only [eqD, ea, eb] at e <;> first | cases e | skip
      split at e
      · exact eqL_exc (eqD_exc n) _ _ _ e
      · cases e
  eqF_exc {a b : Dat} {c : Tx} : eqF a b = .exc c → False := eqD_exc 20 a b c
theorem ops_ne : OpS X (rEqP X true) gNe := by
  intro W H0 H F σ ra rb x y fa fb Q s0 tr ga gb o
  unfold gNe at o
  cases e : eqF ra.d rb.d with
  | no =>
    rw [e] at o
    exact o.elim
  | exc c =>
    exfalso
    exact ops_eq.eqF_exc e
  | ok r =>
    rw [e] at o
    have o : Out X W H0 H F σ (.ok (rsF (.bl (!r)))) Q := o
    exact ⟨_, _, _, _, r, ga.rep, gb.rep, e, o.flat mk_bl⟩
theorem ev_eq (C : XOk k X) {a b : Expr} {pos : Pos} {fa fb : Sto → Res Rs} (ha : Ev X W a fa) (hb : Ev X W b fb) : Ev X W (.Compare a [.Eq] [b] pos) (fBin gEq fa fb) := ev_cmp (op_eqP C) ops_eq ha hb (nomark _)
theorem ev_ne (C : XOk k X) {a b : Expr} {pos : Pos} {fa fb : Sto → Res Rs} (ha : Ev X W a fa) (hb : Ev X W b fb) : Ev X W (.Compare a [.NotEq] [b] pos) (fBin gNe fa fb) := ev_cmp (op_neP C) ops_ne ha hb (nomark _)
/-- is, is not: against None, True, False -/
def isNonD : Dat → Bool
  | .non => true
  | _ => false
def gIs (neg : Bool) (ra rb : Rs) : Res Rs := match ra.d, rb.d with
  | .bl a, .bl b => .ok (rsF (.bl (if neg then !decide (a = b) else decide (a = b))))
  | a, .non => .ok (rsF (.bl (if neg then !isNonD a else isNonD a)))
  | _, _ => .no
abbrev rIsA (neg : Bool) : R2 := fun x y H Q => (∃ a b : Bool, x = .bl a ∧ y = .bl b ∧ Q (.bl (if neg then !decide (a = b) else decide (a = b))) H) ∨ (y = .non ∧ Q (.bl (if neg then !decide (x = .non) else decide (x = .non))) H)
theorem op_isA : OpR X (compareOp .Is) (rIsA false) := OpR.or op_isBl op_isN
theorem op_isNotA : OpR X (compareOp .IsNot) (rIsA true) := OpR.or op_notBl op_notN
theorem rep_isNon {G : Glo} {H : Hp} {d : Dat} {v : V} {f : List Addr} (r : Rep G H d v f) : decide (v = .non) = isNonD d := by
  cases d <;> simp only [Rep] at r <;> simp only [isNonD]
  · simp [r.1]
  · simp [r.1]
  · simp [r.1]
  · simp [r.1]
  all_goals
    obtain ⟨a, r⟩ := r
    first
      | (obtain ⟨e, _⟩ := r; subst e; simp; done)
      | (obtain ⟨_, e, _⟩ := r; subst e; simp; done)
      | (obtain ⟨_, _, e, _⟩ := r; subst e; simp; done)
      | (obtain ⟨_, _, _, e, _⟩ := r; subst e; simp; done)
      | (obtain ⟨_, _, _, _, e, _⟩ := r; subst e; simp; done)
theorem ops_is {neg : Bool} : OpS X (rIsA neg) (gIs neg) := by
  intro W H0 H F σ ra rb x y fa fb Q s0 tr ga gb o
  have pa := ga.rep
  have pb := gb.rep
  unfold gIs at o
  cases eb : rb.d with
  | non =>
    rw [eb] at pb
    have key := rep_isNon pa
    cases ea : ra.d <;> simp only [ea, eb] at o <;> refine .inr ⟨rep_non pb, ?_⟩ <;> rw [ea] at key <;> rw [key] <;> exact o.flat mk_bl
  | bl b =>
    cases ea : ra.d <;> simp only [ea, eb] at o <;> first | exact o.elim | skip
    rw [ea] at pa
    rw [eb] at pb
    exact .inl ⟨_, _, rep_bl pa, rep_bl pb, o.flat mk_bl⟩
  | _ =>
    cases ea : ra.d <;> simp only [ea, eb] at o <;> exact o.elim
theorem ev_is {a b : Expr} {pos : Pos} {fa fb : Sto → Res Rs} (ha : Ev X W a fa) (hb : Ev X W b fb) : Ev X W (.Compare a [.Is] [b] pos) (fBin (gIs false) fa fb) := ev_cmp op_isA ops_is ha hb (nomark _)
theorem ev_isNot {a b : Expr} {pos : Pos} {fa fb : Sto → Res Rs} (ha : Ev X W a fa) (hb : Ev X W b fb) : Ev X W (.Compare a [.IsNot] [b] pos) (fBin (gIs true) fa fb) := ev_cmp op_isNotA ops_is ha hb (nomark _)
end
end PV

/-! PV5: in, subscripts, slices over pure data. -/
namespace PV
open PySem PySem.Spec L2

/-! ### in -/
def anyEq (x : Dat) : List Dat → Res Bool
  | [] => .ok false
  | y :: ys => (eqF y x).bind fun b => (anyEq x ys).bind fun c => .ok (b || c)
theorem anyEq_ok {x : Dat} : ∀ {ys : List Dat} {r : Bool}, anyEq x ys = .ok r → r = ys.any (fun y => getB (eqF y x)) ∧ ∀ y ∈ ys, ∃ b, eqF y x = .ok b
  | [], r, h => by
    simp only [anyEq] at h
    injection h with h
    exact ⟨h.symm, fun _ z => nomatch z⟩
  | y :: ys, r, h => by
    simp only [anyEq] at h
    cases e1 : eqF y x with
    | no =>
      rw [e1] at h
      cases h
    | exc c =>
      rw [e1] at h
      cases h
    | ok b =>
      cases e2 : anyEq x ys with
      | no =>
        rw [e1, e2] at h
        cases h
      | exc c =>
        rw [e1, e2] at h
        cases h
      | ok c =>
        rw [e1, e2] at h
        have h : Res.ok (b || c) = Res.ok r := h
        injection h with h
        obtain ⟨i1, i2⟩ := anyEq_ok e2
        refine ⟨?_, fun z hz => ?_⟩
        · rw [List.any_cons, e1, ← h, i1]
          rfl
        · rcases List.mem_cons.mp hz with q | q
          · rw [q]
            exact ⟨b, e1⟩
          · exact i2 z q
theorem anyEq_exc {x : Dat} : ∀ {ys : List Dat} {c : Tx}, anyEq x ys = .exc c → False
  | [], c, h => by
    simp only [anyEq] at h
    cases h
  | y :: ys, c, h => by
    simp only [anyEq] at h
    cases e1 : eqF y x with
    | no =>
      rw [e1] at h
      cases h
    | exc c => exact ops_eq.eqF_exc e1
    | ok b =>
      rw [e1] at h
      cases e2 : anyEq x ys with
      | no =>
        rw [e2] at h
        cases h
      | exc c => exact anyEq_exc e2
      | ok c =>
        rw [e2] at h
        cases h
section
variable {X : Cx} {pins : List (Addr × Obj)} {σ : L2.St} {H : Hp} {s : Shared} {W : WX} {k : Nat}
/-- the values that stand in a list, against one -/
theorem any_vals {A : Around} (I : Inv X pins σ H s) (hu : A.units + 64 < cLine) {x : Dat} {vx : V} {ux : Value} {fx : List Addr} (rx : Rep (glo X) H x vx fx) (ru : RelV vx ux) : ∀ (ys : List Dat) (vs : List V) (us : List Value) (fp : List Addr), RepL (glo X) H ys vs fp → Vals vs us → (∀ y ∈ ys, ∃ b, eqF y x = .ok b) →
    ∃ e : Value → Bool, (∀ u ∈ us, SeqAt.EqAt A.in1 s u ux (e u)) ∧ ∀ (i : Nat) (y : Dat) (u : Value), ys[i]? = some y → us[i]? = some u → e u = getB (eqF y x) := by
  intro ys vs us fp r v h
  -- each value by the data that it stands for; unlike data at one value have one answer
  have key : ∀ u ∈ us, ∃ b, SeqAt.EqAt A.in1 s u ux b ∧ ∀ (i : Nat) (y : Dat), ys[i]? = some y → us[i]? = some u → eqF y x = .ok b := by
    intro u hu'
    obtain ⟨i, hi⟩ := List.getElem?_of_mem hu'
    have hl : i < ys.length := by
      have a := (List.getElem?_eq_some_iff.mp hi).1
      have b := v.length
      have c := r.len
      omega
    obtain ⟨vv, f, q1, q2, _⟩ := r.at (List.getElem?_eq_getElem hl)
    obtain ⟨u', e1, r1⟩ := v.get q1
    rw [hi] at e1
    injection e1 with e1
    subst e1
    obtain ⟨b, hb⟩ := h _ (List.getElem_mem hl)
    have E := eqAt_ok (A := A.in1) I (by show A.units + 1 + 63 < cLine; omega) q2 rx r1 ru hb
    refine ⟨b, E, fun j y hy hj => ?_⟩
    obtain ⟨vv', f', p1, p2, _⟩ := r.at hy
    obtain ⟨u2, e2, r2⟩ := v.get p1
    rw [hj] at e2
    injection e2 with e2
    subst e2
    obtain ⟨b', hb'⟩ := h _ (List.mem_of_getElem? hy)
    rw [hb']
    congr 1
    exact eqD_cong I 20 _ _ x vv' vv u f' f b' b p2 q2 r2 r1 hb' hb
  classical
  refine ⟨fun u => if hm : u ∈ us then (key u hm).choose else false, fun u hm => ?_, ?_⟩
  · simp only [dif_pos hm]
    exact (key u hm).choose_spec.1
  · intro i y u hy hi
    have hm : u ∈ us := List.mem_of_getElem? hi
    simp only [dif_pos hm]
    rw [(key u hm).choose_spec.2 i y hy hi]
    rfl
/-- two lists place by place -/
theorem any_places {us : List Value} {ys : List Dat} {e : Value → Bool} {p : Dat → Bool} (l : ys.length = us.length) (g : ∀ (i : Nat) (y : Dat) (u : Value), ys[i]? = some y → us[i]? = some u → e u = p y) : us.map e = ys.map p := by
  apply List.ext_getElem?
  intro i
  rw [List.getElem?_map, List.getElem?_map]
  cases hu : us[i]? with
  | none =>
    have : ys[i]? = none := by
      rw [List.getElem?_eq_none_iff] at hu ⊢
      omega
    rw [this]
    rfl
  | some u =>
    have hl := (List.getElem?_eq_some_iff.mp hu).1
    have hy : ys[i]? = some ys[i] := List.getElem?_eq_getElem (by omega)
    rw [hy]
    show some (e u) = some (p _)
    rw [g i _ u hy hu]
abbrev rInP (X : Cx) (neg : Bool) : R2 := fun x y H Q => ∃ a b f g t ys r, Rep (glo X) H a x f ∧ Rep (glo X) H b y g ∧ vw b = .seq t ys ∧ anyEq a ys = .ok r ∧ Q (.bl (if neg then !r else r)) H
theorem in_core {A : Around} (I : Inv X pins σ H s) (hu : A.units + 64 < cLine) {x b : Dat} {vx vb : V} {ux ub : Value} {fx fb : List Addr} {t : Bool} {ys : List Dat} {r : Bool} (rx : Rep (glo X) H x vx fx) (ru : RelV vx ux) (rb : Rep (glo X) H b vb fb) (rvb : RelV vb ub) (hv : vw b = .seq t ys) (h : anyEq x ys = .ok r) :
    ∃ (l : Addr) (items : Array Value) (e : Value → Bool), ub = .ref l ∧ (if t then s.heap.IsTuple l items else s.heap.IsList l items) ∧ (∀ u, u ∈ items → SeqAt.EqAt A.in1 s u ux (e u)) ∧ items.any e = r := by
  have P := vwAt I rb rvb
  rw [hv] at P
  obtain ⟨h1, h2⟩ := anyEq_ok h
  have fin : ∀ (l : Addr) (items : Array Value) (vs : List V) (fp : List Addr), ub = .ref l → (if t then s.heap.IsTuple l items else s.heap.IsList l items) → Vals vs items.toList → RepL (glo X) H ys vs fp → ∃ (l : Addr) (items : Array Value) (e : Value → Bool), ub = .ref l ∧ (if t then s.heap.IsTuple l items else s.heap.IsList l items) ∧ (∀ u, u ∈ items → SeqAt.EqAt A.in1 s u ux (e u)) ∧ items.any e = r := by
    intro l items vs fp q1 q2 q3 q4
    obtain ⟨e, he, g⟩ := any_vals I hu rx ru ys vs items.toList fp q4 q3 h2
    refine ⟨l, items, e, q1, q2, fun u hm => he u (by simpa using hm), ?_⟩
    have ll : ys.length = items.toList.length := by
      have b := q3.length
      have c := q4.len
      omega
    have m := any_places ll g
    have : items.any e = items.toList.any e := by simp
    rw [this, h1]
    have m2 := congrArg (fun l : List Bool => l.any id) m
    simpa [List.any_map, Function.comp_def] using m2
  cases t with
  | false =>
    obtain ⟨l, its, vs, fp, q1, q2, q3, q4⟩ := P
    exact fin l its vs fp q1 q2 q3 q4
  | true =>
    obtain ⟨l, its, vs, fp, q1, q2, q3, q4⟩ := P
    exact fin l its vs fp q1 q2 q3 q4
theorem op_inP (C : XOk k X) : OpR X (compareOp .In) (rInP X false) := by
  intro pins s σ H x y v u Q I rx ry h
  obtain ⟨a, b, f, g, t, ys, r, ra, rb, hv, e, q⟩ := h
  obtain ⟨l, items, e2, h1, h2, h3, h4⟩ := in_core I C.u64 ra rx rb ry hv e
  subst h1
  have z : EP X pins σ Q (.bool (items.any e2)) s := ⟨.bl r, H, I, by rw [h4]; rfl, q⟩
  cases t with
  | false => exact SeqAt.in_listAt e2 (by simpa using h2) h3 z
  | true => exact SeqAt.in_tupleAt e2 (by simpa using h2) h3 z
theorem op_notInP (C : XOk k X) : OpR X (compareOp .NotIn) (rInP X true) := by
  intro pins s σ H x y v u Q I rx ry h
  obtain ⟨a, b, f, g, t, ys, r, ra, rb, hv, e, q⟩ := h
  obtain ⟨l, items, e2, h1, h2, h3, h4⟩ := in_core I C.u64 ra rx rb ry hv e
  subst h1
  have z : EP X pins σ Q (.bool (!items.any e2)) s := ⟨.bl (!r), H, I, by rw [h4]; rfl, q⟩
  cases t with
  | false => exact SeqAt.notIn_listAt e2 (by simpa using h2) h3 z
  | true => exact SeqAt.notIn_tupleAt e2 (by simpa using h2) h3 z
abbrev rInD (neg : Bool) : R2 := fun x y H Q => ∃ a o, y = .ref a ∧ DGet H a x o ∧ Q (.bl (if neg then !o.isSome else o.isSome)) H
theorem op_inDt (C : XOk k X) : OpR X (compareOp .In) (rInD false) := by
  intro pins s σ H x y v u Q I rx ry h
  obtain ⟨a, o, rfl, g, q⟩ := h
  cases ry
  exact d_in C.hu I g rx fun s3 I3 => ⟨.bl o.isSome, H, I3, rfl, q⟩
theorem op_notInDt (C : XOk k X) : OpR X (compareOp .NotIn) (rInD true) := by
  intro pins s σ H x y v u Q I rx ry h
  obtain ⟨a, o, rfl, g, q⟩ := h
  cases ry
  exact d_notIn C.hu I g rx fun s3 I3 => ⟨.bl (!o.isSome), H, I3, rfl, q⟩
abbrev rInS (neg : Bool) : R2 := fun x y H Q => ∃ (c : Nat) (z : Str), x = .str ⟨#[c]⟩ ∧ y = .str z ∧ Q (.bl (if neg then !decide (c ∈ z.cps.toList) else decide (c ∈ z.cps.toList))) H
abbrev rInA (X : Cx) (neg : Bool) : R2 := fun x y H Q => (rInP X neg x y H Q ∨ rInD neg x y H Q) ∨ rInS neg x y H Q
theorem op_inA (C : XOk k X) : OpR X (compareOp .In) (rInA X false) := OpR.or (OpR.or (op_inP C) (op_inDt C)) op_in_sign
theorem op_notInA (C : XOk k X) : OpR X (compareOp .NotIn) (rInA X true) := OpR.or (OpR.or (op_notInP C) (op_notInDt C)) op_notIn_sign
def rsB (neg b : Bool) : Rs := rsF (.bl (if neg then !b else b))
def gIn (neg : Bool) (ra rb : Rs) : Res Rs := match rb.d with
  | .str y => match ra.d with
    | .str [c] => .ok (rsB neg (decide (c ∈ y)))
    | _ => .no
  | .dic ks _ => match ra.d with
    | .str x => .ok (rsB neg (ks.contains x))
    | _ => .no
  | .lst ys => (anyEq ra.d ys).bind fun b => .ok (rsB neg b)
  | .rol ys => (anyEq ra.d ys).bind fun b => .ok (rsB neg b)
  | .tup ys => (anyEq ra.d ys).bind fun b => .ok (rsB neg b)
  | _ => .no
/-! ### a dict's pairs -/
def dGet : List Tx → List Dat → Tx → Option Dat
  | k :: ks, d :: ds, x => if k = x then some d else dGet ks ds x
  | _, _, _ => none
theorem dGet_val {G : Glo} {H : Hp} : ∀ {ks : List Tx} {ds : List Dat} {vs : List V} {fp : List Addr} (x : Tx), RepL G H ds vs fp → ks.length = vs.length →
    (match dGet ks ds x with
      | some d => ∃ v f, valV (kvOf ks vs) (Sum.inr (mkS x) : Key) = some v ∧ Rep G H d v f ∧ ∀ a ∈ f, a ∈ fp
      | none => valV (kvOf ks vs) (Sum.inr (mkS x) : Key) = none)
  | [], ds, vs, fp, x, r, l => by
    have : dGet [] ds x = none := by cases ds <;> rfl
    rw [this]
    have : kvOf [] vs = [] := by cases vs <;> rfl
    rw [this]
    rfl
  | k :: ks, [], vs, fp, x, r, l => by
    simp only [RepL] at r
    rw [r.1] at l
    simp at l
  | k :: ks, d :: ds, vs, fp, x, r, l => by
    simp only [RepL] at r
    obtain ⟨v, vs', f, f', e1, e2, r1, rr⟩ := r
    subst e1
    subst e2
    by_cases h : k = x
    · subst h
      have e : dGet (k :: ks) (d :: ds) k = some d := by
        show (if k = k then some d else _) = _
        rw [if_pos rfl]
      rw [e]
      exact ⟨v, f, valV_pos (p := (Sum.inr (mkS k), v)) rfl, r1, fun a ha => by simp [ha]⟩
    · have e : dGet (k :: ks) (d :: ds) x = dGet ks ds x := by
        show (if k = x then some d else _) = _
        rw [if_neg h]
      have ev : valV (kvOf (k :: ks) (v :: vs')) (Sum.inr (mkS x) : Key) = valV (kvOf ks vs') (Sum.inr (mkS x)) := by
        show valV ((Sum.inr (mkS k), v) :: kvOf ks vs') _ = _
        unfold valV
        rw [List.find?_cons, show decide ((Sum.inr (mkS k) : Key) = Sum.inr (mkS x)) = false from decide_eq_false fun q => h (mkS_inj (Sum.inr.inj q))]
      rw [e, ev]
      have ih := dGet_val x rr (by simpa using l)
      cases e3 : dGet ks ds x with
      | none =>
        rw [e3] at ih
        exact ih
      | some y =>
        rw [e3] at ih
        obtain ⟨v1, f1, q1, q2, q3⟩ := ih
        exact ⟨v1, f1, q1, q2, fun a ha => by simp [q3 a ha]⟩
theorem dGet_has : ∀ {ks : List Tx} {ds : List Dat} (x : Tx), ks.length = ds.length → (dGet ks ds x).isSome = ks.contains x
  | [], ds, x, _ => by
    have : dGet [] ds x = none := by cases ds <;> rfl
    rw [this]
    simp
  | k :: ks, [], x, l => by simp at l
  | k :: ks, d :: ds, x, l => by
    show (if k = x then some d else dGet ks ds x).isSome = _
    by_cases h : k = x
    · rw [if_pos h]
      simp [h]
    · rw [if_neg h, dGet_has x (by simpa using l)]
      simp [Ne.symm h]
theorem ops_in {neg : Bool} : OpS X (rInA X neg) (gIn neg) := by
  intro W H0 H F σ ra rb x y fa fb Q s0 tr ga gb o
  have pa := ga.rep
  have pb := gb.rep
  have seq : ∀ (t : Bool) (ys : List Dat), vw rb.d = .seq t ys → Out X W H0 H F σ ((anyEq ra.d ys).bind fun b => .ok (rsB neg b)) Q → rInA X neg x y H Q := by
    intro t ys hv o
    cases e : anyEq ra.d ys with
    | no =>
      rw [e] at o
      exact o.elim
    | exc c => exact (anyEq_exc e).elim
    | ok b =>
      rw [e] at o
      have o : Out X W H0 H F σ (.ok (rsB neg b)) Q := o
      exact .inl (.inl ⟨ra.d, rb.d, fa, fb, t, ys, b, pa, pb, hv, e, o.flat mk_bl⟩)
  unfold gIn at o
  cases eb : rb.d with
  | lst ys =>
    simp only [eb] at o
    exact seq false ys (by rw [eb]; rfl) o
  | rol ys =>
    simp only [eb] at o
    exact seq false ys (by rw [eb]; rfl) o
  | tup ys =>
    simp only [eb] at o
    exact seq true ys (by rw [eb]; rfl) o
  | str z =>
    simp only [eb] at o
    rw [eb] at pb
    split at o
    · rename_i c ea
      rw [ea] at pa
      refine .inr ⟨c, mkS z, rep_str pa, rep_str pb, ?_⟩
      rw [mkS_cps]
      exact o.flat mk_bl
    · exact o.elim
  | dic ks ds =>
    simp only [eb] at o
    rw [eb] at pb
    simp only [Rep] at pb
    obtain ⟨a, vs, f, ey, hd, l, r, _⟩ := pb
    split at o
    · rename_i z ea
      rw [ea] at pa
      refine .inl (.inr ⟨a, valV (kvOf ks vs) (Sum.inr (mkS z)), ey, ?_, ?_⟩)
      · rw [rep_str pa]
        exact .inl ⟨_, Sum.inr (mkS z), hd, rfl, rfl⟩
      · have e1 := dGet_val z r l
        have e2 := dGet_has (ks := ks) (ds := ds) z (by rw [l, r.len])
        have e3 : (valV (kvOf ks vs) (Sum.inr (mkS z) : Key)).isSome = ks.contains z := by
          rw [← e2]
          cases e4 : dGet ks ds z with
          | none =>
            rw [e4] at e1
            rw [e1]
            rfl
          | some d =>
            rw [e4] at e1
            obtain ⟨v, _, q, _⟩ := e1
            rw [q]
            rfl
        rw [e3]
        exact o.flat mk_bl
    · exact o.elim
  | _ =>
    simp only [eb] at o
    exact o.elim
theorem ev_in (C : XOk k X) {a b : Expr} {pos : Pos} {fa fb : Sto → Res Rs} (ha : Ev X W a fa) (hb : Ev X W b fb) (hm : behindInMarks .In b = false := by rfl) : Ev X W (.Compare a [.In] [b] pos) (fBin (gIn false) fa fb) := ev_cmp (op_inA C) ops_in ha hb hm
theorem ev_notIn (C : XOk k X) {a b : Expr} {pos : Pos} {fa fb : Sto → Res Rs} (ha : Ev X W a fa) (hb : Ev X W b fb) (hm : behindInMarks .NotIn b = false := by rfl) : Ev X W (.Compare a [.NotIn] [b] pos) (fBin (gIn true) fa fb) := ev_cmp (op_notInA C) ops_in ha hb hm

/-! ### subscripts -/
/-- a part of it -/
def pick (r : Rs) (d : Dat) : Rs := if flat d then rsF d else ⟨d, false, r.src, none⟩
theorem pick_out {W : WX} {H0 H : Hp} {F : Fp} {r : Rs} {d : Dat} {x v : V} {fp f : List Addr} {Q : VK} (g : Gv (glo X) H0 F r x H fp) (h : Rep (glo X) H d v f) (hf : ∀ a ∈ f, a ∈ fp) (o : Out X W H0 H F σ (.ok (pick r d)) Q) : Q v H := by
  unfold pick at o
  by_cases e : flat d = true
  · rw [if_pos e] at o
    have := Rep.flat _ _ _ h e
    subst this
    exact o.flat h
  · rw [if_neg e] at o
    exact o v H f (Same.refl H) ⟨h, ⟨fun a ha => g.prv.src a (hf a ha), (fun z => nomatch z), (fun m z => nomatch z)⟩⟩
def dAt (xs : List Dat) (i : Int) : Option Dat := (ixN xs.length i).bind fun j => xs[j]?
def gSubs (ra rb : Rs) : Res Rs := match ra.d, rb.d with
  | .lst xs, .int i => match dAt xs i with
    | some d => .ok (pick ra d)
    | none => .no
  | .rol xs, .int i => match dAt xs i with
    | some d => .ok (pick ra d)
    | none => .no
  | .tup xs, .int i => match dAt xs i with
    | some d => .ok (pick ra d)
    | none => .no
  | .str x, .int i => match (ixN x.length i).bind (fun j => x[j]?) with
    | some c => if x.length ≤ 1000000 then .ok (rsF (.str [c])) else .no
    | none => .no
  | .dic ks ds, .str x => match dGet ks ds x with
    | some d => .ok (pick ra d)
    | none => .no
  | _, _ => .no
theorem dAt_vals {G : Glo} {H : Hp} {ds : List Dat} {vs : List V} {fp : List Addr} {i : Int} {d : Dat} (r : RepL G H ds vs fp) (h : dAt ds i = some d) : ∃ v f, atI vs i = some v ∧ Rep G H d v f ∧ ∀ a ∈ f, a ∈ fp := by
  unfold dAt at h
  unfold atI
  rw [r.len]
  cases e : ixN ds.length i with
  | none =>
    rw [e] at h
    cases h
  | some j =>
    rw [e] at h
    exact r.at h
theorem ev_subs (C : XOk k X) {a b : Expr} {pos : Pos} {fa fb : Sto → Res Rs} (ha : Ev X W a fa) (hb : Ev X W b fb) (h1 : PlainIx b := by exact fun _ _ => rfl) (h2 : NoSl b := by exact fun _ _ => rfl) : Ev X W (.Subscript a b pos) (fBin gSubs fa fb) := by
  refine ⟨weakE (pe_orE (pe_ix ix_seq ha.pe hb.pe h1) (pe_dget C.hu ha.pe hb.pe h2)) fun σ H Q ⟨E, F, re, o⟩ => ?_⟩
  -- which of the two: by the data
  by_cases hd : ∃ ra ks ds, fa E = .ok ra ∧ ra.d = .dic ks ds
  · right
    obtain ⟨ra0, ks, ds, ea, ed⟩ := hd
    refine seqE re (Same.refl H) o fun ra x H1 f1 e1 s1 g1 o1 => ?_
    rw [ea] at e1
    cases e1
    refine seqE (re.same s1) s1 o1 fun rb y H2 f2 e2 s2 g2 o2 => ?_
    have pa := (g1.same s2).rep
    have pb := g2.rep
    unfold gSubs at o2
    rw [ed] at pa
    simp only [Rep] at pa
    obtain ⟨a', vs, f, ex, hr, l, r, ef⟩ := pa
    cases eb : rb.d <;> simp only [ed, eb] at o2 <;> first | exact o2.elim | skip
    rename_i z
    rw [eb] at pb
    have e3 := dGet_val z r l
    cases e4 : dGet ks ds z with
    | none =>
      simp only [e4] at o2
      exact o2.elim
    | some d =>
      simp only [e4] at o2 e3
      obtain ⟨v, f3, q1, q2, q3⟩ := e3
      refine ⟨a', v, ex, ?_, pick_out (g1.same s2) q2 (fun c hc => by simp [ef, q3 c hc]) o2⟩
      rw [rep_str pb]
      exact .inl ⟨_, Sum.inr (mkS z), hr, rfl, q1.symm⟩
  · left
    refine seqE re (Same.refl H) o fun ra x H1 f1 e1 s1 g1 o1 => ?_
    refine seqE (re.same s1) s1 o1 fun rb y H2 f2 e2 s2 g2 o2 => ?_
    have ga := g1.same s2
    have pa := ga.rep
    have pb := g2.rep
    unfold gSubs at o2
    cases ea : ra.d with
    | lst xs =>
      cases eb : rb.d <;> simp only [ea, eb] at o2 <;> first | exact o2.elim | skip
      rename_i i
      rw [ea] at pa
      rw [eb] at pb
      obtain ⟨a', vs, f', e5, h5, r5, z5⟩ := rep_lst pa
      cases e4 : dAt xs i with
      | none =>
        simp only [e4] at o2
        exact o2.elim
      | some d =>
        simp only [e4] at o2
        obtain ⟨v, f, q1, q2, q3⟩ := dAt_vals r5 e4
        exact .inl ⟨a', vs, _, v, e5, rep_int pb, .inl (.inl h5), q1, pick_out ga q2 (fun c hc => by simp [z5, q3 c hc]) o2⟩
    | rol xs =>
      cases eb : rb.d <;> simp only [ea, eb] at o2 <;> first | exact o2.elim | skip
      rename_i i
      rw [eb] at pb
      obtain ⟨a', vs, f', e5, h5, r5, z5⟩ := pa.seqL (xs := xs) (by rw [ea]; rfl)
      cases e4 : dAt xs i with
      | none =>
        simp only [e4] at o2
        exact o2.elim
      | some d =>
        simp only [e4] at o2
        obtain ⟨v, f, q1, q2, q3⟩ := dAt_vals r5 e4
        exact .inl ⟨a', vs, _, v, e5, rep_int pb, h5, q1, pick_out ga q2 (fun c hc => z5 _ (q3 c hc)) o2⟩
    | tup xs =>
      cases eb : rb.d <;> simp only [ea, eb] at o2 <;> first | exact o2.elim | skip
      rename_i i
      rw [eb] at pb
      obtain ⟨a', vs, e5, h5, r5⟩ := pa.seqT (xs := xs) (by rw [ea]; rfl)
      cases e4 : dAt xs i with
      | none =>
        simp only [e4] at o2
        exact o2.elim
      | some d =>
        simp only [e4] at o2
        obtain ⟨v, f, q1, q2, q3⟩ := dAt_vals r5 e4
        exact .inr (.inl ⟨a', vs, _, v, e5, rep_int pb, h5, q1, pick_out ga q2 q3 o2⟩)
    | str z =>
      cases eb : rb.d <;> simp only [ea, eb] at o2 <;> first | exact o2.elim | skip
      rename_i i
      rw [ea] at pa
      rw [eb] at pb
      cases e4 : (ixN z.length i).bind (fun j => z[j]?) with
      | none =>
        simp only [e4] at o2
        exact o2.elim
      | some c =>
        simp only [e4] at o2
        by_cases hl : z.length ≤ 1000000
        · rw [if_pos hl] at o2
          refine .inr (.inr ⟨mkS z, i, c, rep_str pa, rep_int pb, by rw [mkS_len]; exact sizeLine_le hl, ?_, o2.flat mk_str⟩)
          rw [mkS_cps]
          exact e4
        · rw [if_neg hl] at o2
          exact o2.elim
    | dic ks ds => exact absurd ⟨ra, ks, ds, e1, ea⟩ hd
    | _ =>
      cases eb : rb.d <;> simp only [ea, eb] at o2 <;> exact o2.elim
end
end PV

/-! PV6: slices, built-in functions, methods of texts over pure data. -/
namespace PV
open PySem PySem.Spec L2
section
variable {X : Cx} {pins : List (Addr × Obj)} {σ : L2.St} {H : Hp} {s : Shared} {W : WX} {k : Nat}

/-! ### slices -/
def OutO (X : Cx) (W : WX) (H : Hp) (σ : L2.St) (o : Res (Option Int)) (Q : Option Int → Hp → Prop) : Prop := match o with
  | .ok i => ∀ H', Same H H' → Q i H'
  | .exc c => ∀ C H', X.mg (mkS c) = some (.ref C) → Same H H' → W (.ref C) none σ H'
  | .no => False
def tEo (X : Cx) (W : WX) (f : Sto → Res (Option Int)) : TO := fun σ H Q => ∃ E F, RepE (glo X) H E σ F ∧ OutO X W H σ (f E) Q
structure Eo (X : Cx) (W : WX) (e : Option Expr) (f : Sto → Res (Option Int)) : Prop where
  po : PO X e (tEo X W f)
def oNone : Sto → Res (Option Int) := fun _ => .ok none
def oSome (f : Sto → Res Rs) : Sto → Res (Option Int) := fun E => (f E).bind fun r => match r.d with
  | .int i => .ok (some i)
  | _ => .no
theorem eo_none : Eo X W none oNone := ⟨⟨fun pins s σ H Q I ⟨E, F, re, o⟩ => (po_none (X := X)).run pins s σ H Q I (o H (Same.refl H))⟩⟩
theorem eo_some {e : Expr} {f : Sto → Res Rs} (h : Ev X W e f) : Eo X W (some e) (oSome f) := by
  refine ⟨⟨fun pins s σ H Q I ⟨E, F, re, o⟩ => (po_some h.pe).run pins s σ H Q I ?_⟩⟩
  refine ⟨E, F, re, ?_⟩
  unfold oSome at o
  cases e1 : f E with
  | no =>
    rw [e1] at o
    exact o
  | exc c =>
    rw [e1] at o
    exact o
  | ok r =>
    rw [e1] at o
    intro v H1 fp s1 g
    have p := g.rep
    cases ed : r.d <;> simp only [bind_ok, ed] at o <;> first | exact o.elim | skip
    rw [ed] at p
    exact ⟨_, rep_int p, o H1 s1⟩
def cutD {α : Type} (xs : List α) (lo hi : Option Int) : List α := (xs.drop (HT.sIx xs.length 0 lo)).take (HT.sIx xs.length xs.length hi - HT.sIx xs.length 0 lo)
def gSl (r : Rs) (lo hi : Option Int) : Res Rs := match r.d with
  | .lst xs => if xs.length ≤ 1000000 then .ok (rNewL (cutD xs lo hi) r.src) else .no
  | .rol xs => if xs.length ≤ 1000000 then .ok (rNewL (cutD xs lo hi) r.src) else .no
  | .str x => if x.length ≤ 1000000 then .ok (rsF (.str (cutD x lo hi))) else .no
  | _ => .no
def fSl (f : Sto → Res Rs) (lo hi : Sto → Res (Option Int)) : Sto → Res Rs := fun E => (f E).bind fun r => (lo E).bind fun l => (hi E).bind fun h => gSl r l h
theorem cut_reps {G : Glo} {H : Hp} {ds : List Dat} {vs : List V} {fp : List Addr} (r : RepL G H ds vs fp) (lo hi : Option Int) : ∃ f, RepL G H (cutD ds lo hi) (cutV vs lo hi) f ∧ ∀ a ∈ f, a ∈ fp := by
  unfold cutD cutV
  rw [r.len]
  obtain ⟨f1, r1, h1⟩ := r.drop (HT.sIx ds.length 0 lo)
  obtain ⟨f2, r2, h2⟩ := r1.take (HT.sIx ds.length ds.length hi - HT.sIx ds.length 0 lo)
  exact ⟨f2, r2, fun a ha => h1 a (h2 a ha)⟩
theorem cutS_eq (x : Tx) (lo hi : Option Int) : cutS (mkS x) lo hi = mkS (cutD x lo hi) := by
  unfold cutS cutD
  rw [mkS_len, mkS_cps]
  rfl
theorem seqEO {f : Sto → Res (Option Int)} {E : Sto} {F : Fp} {σ : L2.St} {H0 H : Hp} {kk : Option Int → Res Rs} {Q : VK} {Q' : Option Int → Hp → Prop} (re : RepE (glo X) H E σ F) (o : Out X W H0 H F σ ((f E).bind kk) Q)
    (h : ∀ b H1, f E = .ok b → Same H H1 → Out X W H0 H1 F σ (kk b) Q → Q' b H1) : tEo X W f σ H Q' := by
  refine ⟨E, F, re, ?_⟩
  cases e : f E with
  | no =>
    rw [e] at o
    exact o
  | exc c =>
    rw [e] at o
    exact o
  | ok b =>
    intro H1 s1
    rw [e] at o
    exact h b H1 e s1 (Out.mono (show Out X W H0 H F σ (kk b) Q from o) s1)
theorem ev_sl {e : Expr} {lo hi : Option Expr} {p2 pos : Pos} {f : Sto → Res Rs} {fl fh : Sto → Res (Option Int)} (he : Ev X W e f) (hl : Eo X W lo fl) (hh : Eo X W hi fh) : Ev X W (.Subscript e (.Slice lo hi none p2) pos) (fSl f fl fh) := by
  refine ⟨weakE (pe_slice (SlR.or sl_list sl_str) he.pe hl.po hh.po) fun σ H Q ⟨E, F, re, o⟩ => ?_⟩
  refine seqE re (Same.refl H) o fun r x H1 f1 e1 s1 g1 o1 => ?_
  refine seqEO (re.same s1) o1 fun l H2 e2 s2 o2 => ?_
  refine seqEO ((re.same s1).same s2) o2 fun h H3 e3 s3 o3 => ?_
  have s13 := s1.trans (s2.trans s3)
  have g := g1.same (s2.trans s3)
  have p := g.rep
  unfold gSl at o3
  cases ed : r.d with
  | lst xs =>
    simp only [ed] at o3
    rw [ed] at p
    obtain ⟨a, vs, f', ex, hv, rr, z⟩ := rep_lst p
    by_cases hn : xs.length ≤ 1000000
    · rw [if_pos hn] at o3
      obtain ⟨fc, rc, hc⟩ := cut_reps rr l h
      exact .inl ⟨a, vs, ex, .inl (.inl hv), fun q hq => o3 _ _ _ (same_new hq) (Gv.newL s13 rc hq fun c hc' => g.prv.src c (by simp [z, hc c hc']))⟩
    · rw [if_neg hn] at o3
      exact o3.elim
  | rol xs =>
    simp only [ed] at o3
    obtain ⟨a, vs, f', ex, hv, rr, z⟩ := p.seqL (xs := xs) (by rw [ed]; rfl)
    by_cases hn : xs.length ≤ 1000000
    · rw [if_pos hn] at o3
      obtain ⟨fc, rc, hc⟩ := cut_reps rr l h
      exact .inl ⟨a, vs, ex, hv, fun q hq => o3 _ _ _ (same_new hq) (Gv.newL s13 rc hq fun c hc' => g.prv.src c (z c (hc c hc')))⟩
    · rw [if_neg hn] at o3
      exact o3.elim
  | str z =>
    simp only [ed] at o3
    rw [ed] at p
    by_cases hn : z.length ≤ 1000000
    · rw [if_pos hn] at o3
      refine .inr ⟨mkS z, rep_str p, by rw [mkS_len]; exact sizeLine_le hn, ?_⟩
      rw [cutS_eq]
      exact o3.flat mk_str
    · rw [if_neg hn] at o3
      exact o3.elim
  | _ =>
    simp only [ed] at o3
    exact o3.elim
def gRev (r : Rs) : Res Rs := match r.d with
  | .lst xs => .ok (rNewL xs.reverse r.src)
  | .rol xs => .ok (rNewL xs.reverse r.src)
  | _ => .no
def fOne (g : Rs → Res Rs) (f : Sto → Res Rs) : Sto → Res Rs := fun E => (f E).bind g
theorem ev_rev {e : Expr} {kk : Nat} {p1 p2 p3 pos : Pos} {f : Sto → Res Rs} (he : Ev X W e f) : Ev X W (.Subscript e (.Slice none none (some (.UnaryOp .USub (.Constant (.int 1) kk p1) p2)) p3) pos) (fOne gRev f) := by
  refine ⟨weakE (pe_revL he.pe) fun σ H Q ⟨E, F, re, o⟩ => ?_⟩
  refine seqE re (Same.refl H) o fun r x H1 f1 e1 s1 g o1 => ?_
  have p := g.rep
  unfold gRev at o1
  have fin : ∀ (xs : List Dat) (a : Addr) (vs : List V) (f' : List Addr), x = .ref a → SqL X.K H1 a vs → RepL (glo X) H1 xs vs f' → (∀ b ∈ f', b ∈ f1) → Out X W H H1 F σ (.ok (rNewL xs.reverse r.src)) Q → ∃ a xs, x = .ref a ∧ SqL X.K H1 a xs ∧ ∀ p, H1 p = none → Q (.ref p) (upd H1 p (.lst xs.reverse)) := by
    intro xs a vs f' ex hv rr hz o2
    obtain ⟨fr, r2, pr⟩ := rr.rev
    exact ⟨a, vs, ex, hv, fun q hq => o2 _ _ _ (same_new hq) (Gv.newL s1 r2 hq fun c hc => g.prv.src c (hz c (pr.mem_iff.mp hc)))⟩
  cases ed : r.d with
  | lst xs =>
    simp only [ed] at o1
    obtain ⟨a, vs, f', ex, hv, rr, z⟩ := p.seqL (xs := xs) (by rw [ed]; rfl)
    exact fin xs a vs f' ex hv rr z o1
  | rol xs =>
    simp only [ed] at o1
    obtain ⟨a, vs, f', ex, hv, rr, z⟩ := p.seqL (xs := xs) (by rw [ed]; rfl)
    exact fin xs a vs f' ex hv rr z o1
  | _ =>
    simp only [ed] at o1
    exact o1.elim

/-! ### built-in functions of one argument -/
def FnS (X : Cx) (r : List V → Hp → VK → Prop) (g : Rs → Res Rs) : Prop := ∀ (W : WX) (H0 H : Hp) (F : Fp) (σ : L2.St) (ra : Rs) (x : V) (fa : List Addr) (Q : VK),
  Same H0 H → (∀ i, ∀ a ∈ F i, H0 a ≠ none) → Gv (glo X) H0 F ra x H fa → Out X W H0 H F σ (g ra) Q → r [x] H Q
theorem one_arg {e : Expr} {f : Sto → Res Rs} {r : List V → Hp → VK → Prop} {g : Rs → Res Rs} (hg : FnS X r g) {σ : L2.St} {H : Hp} {Q : VK} (h : tEv X W (fOne g f) σ H Q) : tCB r (tCons (tEv X W f) tNil) σ H Q := by
  obtain ⟨E, F, re, o⟩ := h
  refine seqE re (Same.refl H) o fun ra x H1 f1 e1 s1 g1 o1 => ?_
  exact hg W H H1 F σ ra x f1 Q s1 (fun i => re.trk i) g1 o1
theorem ev_fn1 {id : String} {x : Str} {p pos : Pos} {e : Expr} {f : Sto → Res Rs} {r : List V → Hp → VK → Prop} {g : Rs → Res Rs} (hc : CallR X (.builtin id) r) (hg : FnS X r g) (hgl : Gl X x) (hm : X.mg x = none) (hv : bootBuiltins x = some (.builtin id)) (he : Ev X W e f)
    (hn : x ≠ "__name__" := by decide) (hdb : (x == ("__debug__" : Str)) = false := by decide) (hs : starEach [e] X.env = (false, eval e X.env) :: starEach [] X.env := by rfl) : Ev X W (.Call (.Name x p) [e] [] pos) (fOne g f) :=
  ⟨weakE (pe_callB hc hgl hm hv (pa_cons he.pe pa_nil hs) hn hdb hs) fun σ H Q h => one_arg (e := e) hg h⟩
theorem ev_ty1 {T : String} {x : Str} {p pos : Pos} {e : Expr} {f : Sto → Res Rs} {r : List V → Hp → VK → Prop} {g : Rs → Res Rs} (hc : CallR X (.type T) r) (hg : FnS X r g) (hgl : Gl X x) (hm : X.mg x = none) (hv : bootBuiltins x = some (.type T)) (he : Ev X W e f)
    (hn : x ≠ "__name__" := by decide) (hdb : (x == ("__debug__" : Str)) = false := by decide) (hs : starEach [e] X.env = (false, eval e X.env) :: starEach [] X.env := by rfl) : Ev X W (.Call (.Name x p) [e] [] pos) (fOne g f) :=
  ⟨weakE (pe_callTy hc hgl hm hv (pa_cons he.pe pa_nil hs) hn hdb hs) fun σ H Q h => one_arg (e := e) hg h⟩
/-! len -/
def gLen (r : Rs) : Res Rs := match r.d with
  | .lst xs => .ok (rsF (.int xs.length))
  | .rol xs => .ok (rsF (.int xs.length))
  | .tup xs => .ok (rsF (.int xs.length))
  | .str x => if x.length ≤ 1000000 then .ok (rsF (.int x.length)) else .no
  | .dic ks _ => .ok (rsF (.int ks.length))
  | _ => .no
theorem call_lenR : CallR X (.builtin "len") (fun xs H Q => ∃ a kvs, xs = [V.ref a] ∧ Rd H a (.dK kvs) ∧ Q (.int kvs.length) H) := by
  intro pins s σ H xs us Q I r h
  obtain ⟨a, kvs, rfl, ha, q⟩ := h
  obtain ⟨u, rfl, ru⟩ := vals1 r
  cases ru
  exact d_len I ha fun t s' I' => ⟨.int kvs.length, H, I', ⟨t, rfl⟩, q⟩
abbrev rLenA (X : Cx) : List V → Hp → VK → Prop := fun xs H Q => (∃ x n, xs = [x] ∧ LenV X.K x H n ∧ Q (.int n) H) ∨ (∃ a kvs, xs = [V.ref a] ∧ Rd H a (.dK kvs) ∧ Q (.int kvs.length) H)
theorem call_lenA : CallR X (.builtin "len") (rLenA X) := CallR.or call_len call_lenR
theorem fns_len : FnS X (rLenA X) gLen := by
  intro W H0 H F σ ra x fa Q s0 tr g o
  have p := g.rep
  unfold gLen at o
  cases ed : ra.d with
  | lst xs =>
    simp only [ed] at o
    obtain ⟨a, vs, f', ex, hv, rr, z⟩ := p.seqL (xs := xs) (by rw [ed]; rfl)
    subst ex
    exact .inl ⟨_, xs.length, rfl, .inl ⟨vs, hv, rr.len.symm⟩, o.flat mk_int⟩
  | rol xs =>
    simp only [ed] at o
    obtain ⟨a, vs, f', ex, hv, rr, z⟩ := p.seqL (xs := xs) (by rw [ed]; rfl)
    subst ex
    exact .inl ⟨_, xs.length, rfl, .inl ⟨vs, hv, rr.len.symm⟩, o.flat mk_int⟩
  | tup xs =>
    simp only [ed] at o
    obtain ⟨a, vs, ex, hv, rr⟩ := p.seqT (xs := xs) (by rw [ed]; rfl)
    subst ex
    exact .inl ⟨_, xs.length, rfl, .inr ⟨vs, hv, rr.len.symm⟩, o.flat mk_int⟩
  | str z =>
    simp only [ed] at o
    rw [ed] at p
    by_cases h : z.length ≤ 1000000
    · rw [if_pos h] at o
      rw [rep_str p]
      exact .inl ⟨_, z.length, rfl, ⟨by rw [mkS_len]; exact sizeLine_le h, (mkS_len z).symm⟩, o.flat mk_int⟩
    · rw [if_neg h] at o
      exact o.elim
  | dic ks ds =>
    simp only [ed] at o
    rw [ed] at p
    simp only [Rep] at p
    obtain ⟨a, vs, f, ex, hd, l, r, _⟩ := p
    subst ex
    refine .inr ⟨a, _, rfl, hd, ?_⟩
    rw [kvOf_len l]
    exact o.flat mk_int
  | _ =>
    simp only [ed] at o
    exact o.elim
theorem ev_len {p pos : Pos} {e : Expr} {f : Sto → Res Rs} (hm : X.mg "len" = none) (he : Ev X W e f) (hgl : Gl X "len" := by rfl) (hs : starEach [e] X.env = (false, eval e X.env) :: starEach [] X.env := by rfl) : Ev X W (.Call (.Name "len" p) [e] [] pos) (fOne gLen f) :=
  ev_fn1 call_lenA fns_len hgl hm PySem.boot_len he (by decide) (by decide) hs
/-! sum, abs, all, any -/
def intsOf : List Dat → Option (List Int)
  | [] => some []
  | .int i :: r => (intsOf r).map fun l => i :: l
  | _ :: _ => none
def blsOf : List Dat → Option (List Bool)
  | [] => some []
  | .bl i :: r => (blsOf r).map fun l => i :: l
  | _ :: _ => none
def strsOf : List Dat → Option (List Tx)
  | [] => some []
  | .str i :: r => (strsOf r).map fun l => i :: l
  | _ :: _ => none
theorem intsOf_reps {G : Glo} {H : Hp} : ∀ {ds : List Dat} {vs : List V} {fp : List Addr} {ns : List Int}, RepL G H ds vs fp → intsOf ds = some ns → vs = ns.map V.int ∧ fp = []
  | [], vs, fp, ns, r, e => by
    simp only [RepL] at r
    simp only [intsOf] at e
    cases e
    exact r
  | d :: ds, vs, fp, ns, r, e => by
    simp only [RepL] at r
    obtain ⟨v, vs', f, f', e1, e2, r1, rr⟩ := r
    cases d <;> simp only [intsOf] at e <;> first | cases e | skip
    rename_i i
    cases e3 : intsOf ds with
    | none =>
      rw [e3] at e
      cases e
    | some l =>
      rw [e3] at e
      have e : some (i :: l) = some ns := e
      injection e with e
      subst e
      obtain ⟨q1, q2⟩ := intsOf_reps rr e3
      simp only [Rep] at r1
      rw [e1, e2, q1, q2, r1.1, r1.2]
      exact ⟨rfl, rfl⟩
theorem blsOf_reps {G : Glo} {H : Hp} : ∀ {ds : List Dat} {vs : List V} {fp : List Addr} {ns : List Bool}, RepL G H ds vs fp → blsOf ds = some ns → vs = ns.map V.bl ∧ fp = []
  | [], vs, fp, ns, r, e => by
    simp only [RepL] at r
    simp only [blsOf] at e
    cases e
    exact r
  | d :: ds, vs, fp, ns, r, e => by
    simp only [RepL] at r
    obtain ⟨v, vs', f, f', e1, e2, r1, rr⟩ := r
    cases d <;> simp only [blsOf] at e <;> first | cases e | skip
    rename_i i
    cases e3 : blsOf ds with
    | none =>
      rw [e3] at e
      cases e
    | some l =>
      rw [e3] at e
      have e : some (i :: l) = some ns := e
      injection e with e
      subst e
      obtain ⟨q1, q2⟩ := blsOf_reps rr e3
      simp only [Rep] at r1
      rw [e1, e2, q1, q2, r1.1, r1.2]
      exact ⟨rfl, rfl⟩
theorem strsOf_reps {G : Glo} {H : Hp} : ∀ {ds : List Dat} {vs : List V} {fp : List Addr} {ns : List Tx}, RepL G H ds vs fp → strsOf ds = some ns → vs = (ns.map mkS).map V.str ∧ fp = []
  | [], vs, fp, ns, r, e => by
    simp only [RepL] at r
    simp only [strsOf] at e
    cases e
    exact r
  | d :: ds, vs, fp, ns, r, e => by
    simp only [RepL] at r
    obtain ⟨v, vs', f, f', e1, e2, r1, rr⟩ := r
    cases d <;> simp only [strsOf] at e <;> first | cases e | skip
    rename_i i
    cases e3 : strsOf ds with
    | none =>
      rw [e3] at e
      cases e
    | some l =>
      rw [e3] at e
      have e : some (i :: l) = some ns := e
      injection e with e
      subst e
      obtain ⟨q1, q2⟩ := strsOf_reps rr e3
      simp only [Rep] at r1
      rw [e1, e2, q1, q2, r1.1, r1.2]
      exact ⟨rfl, rfl⟩
theorem strs_reps {G : Glo} {H : Hp} : ∀ ns : List Tx, RepL G H (ns.map Dat.str) ((ns.map mkS).map V.str) []
  | [] => RepL.nil
  | n :: ns => RepL.cons (f := []) (f' := []) (by simp [Rep]) (strs_reps ns)
theorem ints_reps {G : Glo} {H : Hp} : ∀ ns : List Int, RepL G H (ns.map Dat.int) (ns.map V.int) []
  | [] => RepL.nil
  | n :: ns => RepL.cons (f := []) (f' := []) (by simp [Rep]) (ints_reps ns)
/-- the items of a list or a tuple -/
def seqOf : Dat → Option (List Dat)
  | .lst xs => some xs
  | .rol xs => some xs
  | _ => none
theorem seqOf_vw {d : Dat} {xs : List Dat} (h : seqOf d = some xs) : vw d = .seq false xs := by
  cases d <;> simp only [seqOf] at h <;> cases h <;> rfl
def gSum (r : Rs) : Res Rs := match (seqOf r.d).bind intsOf with
  | some ns => .ok (rsF (.int ns.sum))
  | none => .no
theorem fns_sum : FnS X (rSum X.K) gSum := by
  intro W H0 H F σ ra x fa Q s0 tr g o
  unfold gSum at o
  cases e1 : seqOf ra.d with
  | none =>
    rw [e1] at o
    exact o.elim
  | some xs =>
    obtain ⟨a, vs, f', ex, hv, rr, z⟩ := g.rep.seqL (seqOf_vw e1)
    rw [e1] at o
    cases e2 : intsOf xs with
    | none =>
      simp only [Option.bind_some, e2] at o
      exact o.elim
    | some ns =>
      simp only [Option.bind_some, e2] at o
      obtain ⟨q1, _⟩ := intsOf_reps rr e2
      subst ex
      rw [q1] at hv
      exact ⟨a, ns, rfl, hv, o.flat mk_int⟩
theorem ev_sum (C : XOk k X) {p pos : Pos} {e : Expr} {f : Sto → Res Rs} (hm : X.mg "sum" = none) (he : Ev X W e f) (hgl : Gl X "sum" := by rfl) (hs : starEach [e] X.env = (false, eval e X.env) :: starEach [] X.env := by rfl) : Ev X W (.Call (.Name "sum" p) [e] [] pos) (fOne gSum f) :=
  ev_fn1 (cr_sum C.calm) fns_sum hgl hm (by decide +kernel) he (by decide) (by decide) hs
def gAll (r : Rs) : Res Rs := match (seqOf r.d).bind blsOf with
  | some bs => .ok (rsF (.bl (bs.all id)))
  | none => .no
def gAny (r : Rs) : Res Rs := match (seqOf r.d).bind blsOf with
  | some bs => .ok (rsF (.bl (bs.any id)))
  | none => .no
theorem fns_all : FnS X (rAll X.K) gAll := by
  intro W H0 H F σ ra x fa Q s0 tr g o
  unfold gAll at o
  cases e1 : seqOf ra.d with
  | none =>
    rw [e1] at o
    exact o.elim
  | some xs =>
    obtain ⟨a, vs, f', ex, hv, rr, z⟩ := g.rep.seqL (seqOf_vw e1)
    rw [e1] at o
    cases e2 : blsOf xs with
    | none =>
      simp only [Option.bind_some, e2] at o
      exact o.elim
    | some ns =>
      simp only [Option.bind_some, e2] at o
      obtain ⟨q1, _⟩ := blsOf_reps rr e2
      subst ex
      rw [q1] at hv
      exact ⟨a, ns, rfl, hv, o.flat mk_bl⟩
theorem fns_any : FnS X (rAny X.K) gAny := by
  intro W H0 H F σ ra x fa Q s0 tr g o
  unfold gAny at o
  cases e1 : seqOf ra.d with
  | none =>
    rw [e1] at o
    exact o.elim
  | some xs =>
    obtain ⟨a, vs, f', ex, hv, rr, z⟩ := g.rep.seqL (seqOf_vw e1)
    rw [e1] at o
    cases e2 : blsOf xs with
    | none =>
      simp only [Option.bind_some, e2] at o
      exact o.elim
    | some ns =>
      simp only [Option.bind_some, e2] at o
      obtain ⟨q1, _⟩ := blsOf_reps rr e2
      subst ex
      rw [q1] at hv
      exact ⟨a, ns, rfl, hv, o.flat mk_bl⟩
theorem ev_all (C : XOk k X) {p pos : Pos} {e : Expr} {f : Sto → Res Rs} (hm : X.mg "all" = none) (he : Ev X W e f) (hgl : Gl X "all" := by rfl) (hs : starEach [e] X.env = (false, eval e X.env) :: starEach [] X.env := by rfl) : Ev X W (.Call (.Name "all" p) [e] [] pos) (fOne gAll f) :=
  ev_fn1 (cr_all C.calm) fns_all hgl hm (by decide +kernel) he (by decide) (by decide) hs
theorem ev_any (C : XOk k X) {p pos : Pos} {e : Expr} {f : Sto → Res Rs} (hm : X.mg "any" = none) (he : Ev X W e f) (hgl : Gl X "any" := by rfl) (hs : starEach [e] X.env = (false, eval e X.env) :: starEach [] X.env := by rfl) : Ev X W (.Call (.Name "any" p) [e] [] pos) (fOne gAny f) :=
  ev_fn1 (cr_any C.calm) fns_any hgl hm (by decide +kernel) he (by decide) (by decide) hs
def gAbs (r : Rs) : Res Rs := match r.d with
  | .int i => .ok (rsF (.int (if i < 0 then -i else i)))
  | _ => .no
theorem fns_abs : FnS X (fun xs H Q => ∃ i, xs = [.int i] ∧ Q (.int (if i < 0 then -i else i)) H) gAbs := by
  intro W H0 H F σ ra x fa Q s0 tr g o
  have p := g.rep
  unfold gAbs at o
  cases ed : ra.d <;> simp only [ed] at o <;> first | exact o.elim | skip
  rw [ed] at p
  rw [rep_int p]
  exact ⟨_, rfl, o.flat mk_int⟩
theorem ev_abs {p pos : Pos} {e : Expr} {f : Sto → Res Rs} (hm : X.mg "abs" = none) (he : Ev X W e f) (hgl : Gl X "abs" := by rfl) (hs : starEach [e] X.env = (false, eval e X.env) :: starEach [] X.env := by rfl) : Ev X W (.Call (.Name "abs" p) [e] [] pos) (fOne gAbs f) :=
  ev_fn1 call_abs fns_abs hgl hm (by decide +kernel) he (by decide) (by decide) hs
/-! list(..) of a list, a tuple, a dict -/
def gList (r : Rs) : Res Rs := match r.d with
  | .lst xs => .ok (rNewL xs r.src)
  | .rol xs => .ok (rNewL xs r.src)
  | .tup xs => .ok (rNewL xs r.src)
  | .dic ks _ => .ok (rNewL (ks.map Dat.str) [])
  | _ => .no
abbrev rListA (X : Cx) : List V → Hp → VK → Prop := fun xs H Q => (∃ p ys, xs = [.ref p] ∧ (SqL X.K H p ys ∨ SqT X.K H p ys) ∧ ∀ l, H l = none → Q (.ref l) (upd H l (.lst ys))) ∨
  (∃ (a : Addr) (kvs : List (Key × V)), xs = [.ref a] ∧ Rd H a (.dK kvs) ∧ ∀ p, H p = none → Q (.ref p) (upd H p (.lst (kvs.map fun kv => kV kv.1))))
theorem call_listA (C : XOk k X) : CallR X (.type "list") (rListA X) := CallR.or call_list_of (call_listD C.calm)
theorem kv_keys : ∀ {ks : List Tx} {vs : List V}, ks.length = vs.length → (kvOf ks vs).map (fun kv => kV kv.1) = (ks.map mkS).map V.str
  | [], [], _ => rfl
  | [], _ :: _, h => by simp at h
  | _ :: _, [], h => by simp at h
  | k :: ks, v :: vs, h => by
    show V.str (mkS k) :: (kvOf ks vs).map _ = _
    rw [kv_keys (by simpa using h)]
    rfl
theorem fns_list : FnS X (rListA X) gList := by
  intro W H0 H F σ ra x fa Q s0 tr g o
  have p := g.rep
  unfold gList at o
  cases ed : ra.d with
  | lst xs =>
    simp only [ed] at o
    obtain ⟨a, vs, f', ex, hv, rr, z⟩ := p.seqL (xs := xs) (by rw [ed]; rfl)
    subst ex
    exact .inl ⟨a, vs, rfl, .inl hv, fun q hq => o _ _ _ (same_new hq) (Gv.newL s0 rr hq fun c hc => g.prv.src c (z c hc))⟩
  | rol xs =>
    simp only [ed] at o
    obtain ⟨a, vs, f', ex, hv, rr, z⟩ := p.seqL (xs := xs) (by rw [ed]; rfl)
    subst ex
    exact .inl ⟨a, vs, rfl, .inl hv, fun q hq => o _ _ _ (same_new hq) (Gv.newL s0 rr hq fun c hc => g.prv.src c (z c hc))⟩
  | tup xs =>
    simp only [ed] at o
    obtain ⟨a, vs, ex, hv, rr⟩ := p.seqT (xs := xs) (by rw [ed]; rfl)
    subst ex
    exact .inl ⟨a, vs, rfl, .inr hv, fun q hq => o _ _ _ (same_new hq) (Gv.newL s0 rr hq fun c hc => g.prv.src c hc)⟩
  | dic ks ds =>
    simp only [ed] at o
    rw [ed] at p
    simp only [Rep] at p
    obtain ⟨a, vs, f, ex, hd, l, r, _⟩ := p
    subst ex
    refine .inr ⟨a, _, rfl, hd, fun q hq => ?_⟩
    rw [kv_keys l]
    exact o _ _ _ (same_new hq) (Gv.newL s0 (strs_reps ks) hq (fun _ z => nomatch z))
  | _ =>
    simp only [ed] at o
    exact o.elim
theorem ev_list (C : XOk k X) {p pos : Pos} {e : Expr} {f : Sto → Res Rs} (hm : X.mg "list" = none) (he : Ev X W e f) (hgl : Gl X "list" := by rfl) (hs : starEach [e] X.env = (false, eval e X.env) :: starEach [] X.env := by rfl) : Ev X W (.Call (.Name "list" p) [e] [] pos) (fOne gList f) :=
  ev_ty1 (call_listA C) fns_list hgl hm (by decide +kernel) he (by decide) (by decide) hs
end
end PV

/-! PV7: methods of texts over pure data. -/
namespace PV
open PySem PySem.Spec L2
/-! ### texts as lists of signs -/
def stripL (p : Nat → Bool) (x : Tx) : Tx := ((x.dropWhile p).reverse.dropWhile p).reverse
theorem tw_drop (p : Nat → Bool) : ∀ x : Tx, x.drop (x.takeWhile p).length = x.dropWhile p
  | [] => rfl
  | a :: x => by
    by_cases h : p a = true
    · rw [List.takeWhile_cons_of_pos h, List.dropWhile_cons_of_pos h, List.length_cons, List.drop_succ_cons]
      exact tw_drop p x
    · rw [List.takeWhile_cons_of_neg h, List.dropWhile_cons_of_neg h]
      rfl
theorem rev_cut (p : Nat → Bool) (y : Tx) : y.take (y.length - (y.reverse.takeWhile p).length) = (y.reverse.dropWhile p).reverse := by
  rw [← tw_drop p y.reverse, List.reverse_drop, List.reverse_reverse, List.length_reverse]
theorem stripBy_tl (p : Nat → Bool) (x : Tx) : Txt.stripBy p true true (mkS x) = mkS (stripL p x) := by
  rw [PyProof.Rows.stripBy_eq]
  apply TL.ext_tl
  rw [TL.tl_strSub]
  show ((x.drop (stripLo p true (mkS x))).take _) = stripL p x
  have e1 : stripLo p true (mkS x) = (x.takeWhile p).length := rfl
  have e2 : stripHi p true (mkS x) (stripLo p true (mkS x)) = x.length - ((x.drop (x.takeWhile p).length).reverse.takeWhile p).length := by
    unfold stripHi
    rw [if_pos rfl, mkS_len]
    rfl
  rw [e2, e1]
  unfold stripL
  rw [← rev_cut p (x.dropWhile p), ← tw_drop p x]
  congr 1
  have l1 : (x.drop (x.takeWhile p).length).length = x.length - (x.takeWhile p).length := List.length_drop
  rw [l1]
  omega
theorem lstrip_tl (p : Nat → Bool) (x : Tx) : Txt.stripBy p true false (mkS x) = mkS (x.dropWhile p) := by
  rw [PyProof.Rows.stripBy_eq]
  apply TL.ext_tl
  rw [TL.tl_strSub]
  show ((x.drop (stripLo p true (mkS x))).take _) = x.dropWhile p
  have e1 : stripLo p true (mkS x) = (x.takeWhile p).length := rfl
  have e2 : stripHi p false (mkS x) (stripLo p true (mkS x)) = x.length := by
    unfold stripHi
    rw [if_neg Bool.false_ne_true, mkS_len]
  rw [e2, e1, tw_drop, List.take_of_length_le]
  rw [← tw_drop]
  rw [List.length_drop]
  exact Nat.le_refl _
theorem contains_tl (y : Tx) : (mkS y).cps.contains = fun c => y.contains c := by
  funext c
  show y.toArray.contains c = _
  simp
theorem startswith_tl (x y : Tx) : Txt.startswith (mkS x) (mkS y) = (x.take y.length == y) := by
  unfold Txt.startswith
  rw [StrLaws.subAt_eq, mkS_len, mkS_len, mkS_cps, mkS_cps, List.drop_zero]
  by_cases h : 0 + y.length ≤ x.length
  · rw [decide_eq_true h, Bool.true_and]
  · rw [decide_eq_false h, Bool.false_and]
    symm
    rw [beq_eq_false_iff_ne]
    intro e
    have := congrArg List.length e
    rw [List.length_take] at this
    omega
/-- cut at each y -/
def splitL (y x : Tx) : List Tx := TL.spl y 0 [] x
theorem split_tl {x y : Tx} (hy : y ≠ []) (h : y.all (· < 256) = true) : Txt.split (mkS x) (mkS y) = (splitL y x).map mkS := by
  apply TL.map_tl_inj
  rw [TL.split_spl _ _ hy (TL.kind_ok (by simpa [mkS] using h)), List.map_map]
  have : (TL.tl ∘ mkS) = id := funext fun _ => rfl
  rw [this, List.map_id]
  rfl
def joinT (y : Tx) (ps : List Tx) : Tx := TL.joinL y ps
theorem join_tl (y : Tx) (ps : List Tx) : Txt.join (mkS y) (ps.map mkS) = mkS (joinT y ps) := by
  rw [TL.join_eq]
  apply TL.ext_tl
  rw [TL.tl_join, List.map_map]
  have : (TL.tl ∘ mkS) = id := funext fun _ => rfl
  rw [this, List.map_id]
  rfl
section
variable {X : Cx} {pins : List (Addr × Obj)} {σ : L2.St} {H : Hp} {s : Shared} {W : WX} {k : Nat}
/-- a text's method of one argument -/
def MtS1 (X : Cx) (r : V → List V → Hp → VK → Prop) (g : Tx → Rs → Res Rs) : Prop := ∀ (W : WX) (H0 H : Hp) (F : Fp) (σ : L2.St) (a : Tx) (rb : Rs) (y : V) (fb : List Addr) (Q : VK),
  Same H0 H → (∀ i, ∀ c ∈ F i, H0 c ≠ none) → Gv (glo X) H0 F rb y H fb → Out X W H0 H F σ (g a rb) Q → r (.str (mkS a)) [y] H Q
def fM1 (g : Tx → Rs → Res Rs) (fo f : Sto → Res Rs) : Sto → Res Rs := fun E => (fo E).bind fun ra => match ra.d with
  | .str a => (f E).bind fun rb => g a rb
  | _ => .no
theorem ev_m1 {id : String} {name : Str} {apos pos : Pos} {o e : Expr} {f fo : Sto → Res Rs} {r : V → List V → Hp → VK → Prop} {g : Tx → Rs → Res Rs} (slot : Slot "str" name id) (ty : typeOf (.builtin id) = pure (.type "method_descriptor")) (rule : MtR X id r) (hg : MtS1 X r g)
    (ho : Ev X W o fo) (he : Ev X W e f) (hs : starEach [e] X.env = [(false, eval e X.env)]) (hbase : attributeBase o name X.env (eval o X.env) = eval o X.env) (hline : (apos.endLine == pos.line) = true) : Ev X W (.Call (.Attribute o name apos) [e] [] pos) (fM1 g fo f) := by
  refine ⟨weakE (pe_m1 slot ty rule ho.pe he.pe hs hbase hline) fun σ H Q ⟨E, F, re, oo⟩ => ?_⟩
  refine seqE re (Same.refl H) oo fun ra x H1 f1 e1 s1 g1 o1 => ?_
  have p := g1.rep
  cases ed : ra.d with
  | str a =>
    simp only [ed] at o1
    rw [ed] at p
    refine ⟨⟨_, rep_str p⟩, ?_⟩
    refine seqE (re.same s1) s1 o1 fun rb y H2 f2 e2 s2 g2 o2 => ?_
    rw [rep_str p]
    exact hg W H H2 F σ a rb y f2 Q (s1.trans s2) (fun i => re.trk i) g2 o2
  | _ =>
    simp only [ed] at o1
    exact o1.elim
def gStartsW (a : Tx) (rb : Rs) : Res Rs := match rb.d with
  | .str b => .ok (rsF (.bl (a.take b.length == b)))
  | _ => .no
theorem mts_startsw : MtS1 X (fun x xs H Q => ∃ a b, x = .str a ∧ xs = [.str b] ∧ Q (.bl (Txt.startswith a b)) H) gStartsW := by
  intro W H0 H F σ a rb y fb Q s0 tr g o
  have p := g.rep
  unfold gStartsW at o
  cases ed : rb.d <;> simp only [ed] at o <;> first | exact o.elim | skip
  rw [ed] at p
  refine ⟨_, _, rfl, by rw [rep_str p], ?_⟩
  rw [startswith_tl]
  exact o.flat mk_bl
theorem ev_startsw {apos pos : Pos} {o e : Expr} {f fo : Sto → Res Rs} (ho : Ev X W o fo) (he : Ev X W e f) (hs : starEach [e] X.env = [(false, eval e X.env)] := by rfl) (hbase : attributeBase o "startswith" X.env (eval o X.env) = eval o X.env := by rfl) (hline : (apos.endLine == pos.line) = true := by rfl) : Ev X W (.Call (.Attribute o "startswith" apos) [e] [] pos) (fM1 gStartsW fo f) :=
  ev_m1 PySem.F.slot_str_startswith PySem.F.type_str_startswith mt_startswith mts_startsw ho he hs hbase hline
def gStrip (a : Tx) (rb : Rs) : Res Rs := match rb.d with
  | .str b => if a.length ≤ 1000000 then .ok (rsF (.str (stripL (fun c => b.contains c) a))) else .no
  | _ => .no
def gLstrip (a : Tx) (rb : Rs) : Res Rs := match rb.d with
  | .str b => if a.length ≤ 1000000 then .ok (rsF (.str (a.dropWhile (fun c => b.contains c)))) else .no
  | _ => .no
theorem mts_strip : MtS1 X (fun x xs H Q => ∃ a b, x = .str a ∧ xs = [.str b] ∧ a.length ≤ sizeLine ∧ Q (.str (Txt.stripChars a b)) H) gStrip := by
  intro W H0 H F σ a rb y fb Q s0 tr g o
  have p := g.rep
  unfold gStrip at o
  cases ed : rb.d <;> simp only [ed] at o <;> first | exact o.elim | skip
  rw [ed] at p
  by_cases h : a.length ≤ 1000000
  · rw [if_pos h] at o
    refine ⟨_, _, rfl, by rw [rep_str p], by rw [mkS_len]; exact sizeLine_le h, ?_⟩
    unfold Txt.stripChars
    rw [contains_tl, stripBy_tl]
    exact o.flat mk_str
  · rw [if_neg h] at o
    exact o.elim
theorem mts_lstrip : MtS1 X (fun x xs H Q => ∃ a b, x = .str a ∧ xs = [.str b] ∧ a.length ≤ sizeLine ∧ Q (.str (Txt.lstripChars a b)) H) gLstrip := by
  intro W H0 H F σ a rb y fb Q s0 tr g o
  have p := g.rep
  unfold gLstrip at o
  cases ed : rb.d <;> simp only [ed] at o <;> first | exact o.elim | skip
  rw [ed] at p
  by_cases h : a.length ≤ 1000000
  · rw [if_pos h] at o
    refine ⟨_, _, rfl, by rw [rep_str p], by rw [mkS_len]; exact sizeLine_le h, ?_⟩
    unfold Txt.lstripChars
    rw [contains_tl, lstrip_tl]
    exact o.flat mk_str
  · rw [if_neg h] at o
    exact o.elim
theorem ev_strip {apos pos : Pos} {o e : Expr} {f fo : Sto → Res Rs} (ho : Ev X W o fo) (he : Ev X W e f) (hs : starEach [e] X.env = [(false, eval e X.env)] := by rfl) (hbase : attributeBase o "strip" X.env (eval o X.env) = eval o X.env := by rfl) (hline : (apos.endLine == pos.line) = true := by rfl) : Ev X W (.Call (.Attribute o "strip" apos) [e] [] pos) (fM1 gStrip fo f) :=
  ev_m1 PySem.F.slot_str_strip PySem.F.type_str_strip mt_stripChars mts_strip ho he hs hbase hline
theorem ev_lstrip {apos pos : Pos} {o e : Expr} {f fo : Sto → Res Rs} (ho : Ev X W o fo) (he : Ev X W e f) (hs : starEach [e] X.env = [(false, eval e X.env)] := by rfl) (hbase : attributeBase o "lstrip" X.env (eval o X.env) = eval o X.env := by rfl) (hline : (apos.endLine == pos.line) = true := by rfl) : Ev X W (.Call (.Attribute o "lstrip" apos) [e] [] pos) (fM1 gLstrip fo f) :=
  ev_m1 PySem.F.slot_str_lstrip PySem.F.type_str_lstrip mt_lstripChars mts_lstrip ho he hs hbase hline
def gSplit (a : Tx) (rb : Rs) : Res Rs := match rb.d with
  | .str b => if b ≠ [] ∧ b.all (· < 256) = true ∧ a.length ≤ 1000000 then .ok (rNewL ((splitL b a).map Dat.str) []) else .no
  | _ => .no
theorem mts_split : MtS1 X (fun x xs H Q => ∃ a b, x = .str a ∧ xs = [.str b] ∧ (b.length == 0) = false ∧ a.length + 2 ≤ sizeLine ∧ rNewStrs (Txt.split a b) H Q) gSplit := by
  intro W H0 H F σ a rb y fb Q s0 tr g o
  have p := g.rep
  unfold gSplit at o
  cases ed : rb.d <;> simp only [ed] at o <;> first | exact o.elim | skip
  rename_i b
  rw [ed] at p
  by_cases h : b ≠ [] ∧ b.all (· < 256) = true ∧ a.length ≤ 1000000
  · rw [if_pos h] at o
    have e16 : sizeLine = 16777216 := by decide
    refine ⟨_, _, rfl, by rw [rep_str p], ?_, by rw [mkS_len, e16]; have := h.2.2; omega, fun q hq => ?_⟩
    · rw [mkS_len]
      cases b with
      | nil => exact absurd rfl h.1
      | cons c b => rfl
    · rw [split_tl h.1 h.2.1]
      exact o _ _ _ (same_new hq) (Gv.newL s0 (strs_reps _) hq (fun _ z => nomatch z))
  · rw [if_neg h] at o
    exact o.elim
theorem ev_split {apos pos : Pos} {o e : Expr} {f fo : Sto → Res Rs} (ho : Ev X W o fo) (he : Ev X W e f) (hs : starEach [e] X.env = [(false, eval e X.env)] := by rfl) (hbase : attributeBase o "split" X.env (eval o X.env) = eval o X.env := by rfl) (hline : (apos.endLine == pos.line) = true := by rfl) : Ev X W (.Call (.Attribute o "split" apos) [e] [] pos) (fM1 gSplit fo f) :=
  ev_m1 PySem.F.slot_str_split PySem.F.type_str_split mt_split mts_split ho he hs hbase hline
def gJoin (a : Tx) (rb : Rs) : Res Rs := match (seqOf rb.d).bind strsOf with
  | some ys => if (ys.map (·.length)).sum + ys.length * a.length ≤ 1000000 then .ok (rsF (.str (joinT a ys))) else .no
  | none => .no
theorem mts_join : MtS1 X (fun x xs H Q => ∃ a p, ∃ ys : List Str, x = .str a ∧ xs = [.ref p] ∧ (SqL X.K H p (ys.map V.str) ∨ SqT X.K H p (ys.map V.str)) ∧ (ys.map (·.length)).sum + ys.length * a.length ≤ 16777216 ∧ Q (.str (Txt.join a ys)) H) gJoin := by
  intro W H0 H F σ a rb y fb Q s0 tr g o
  unfold gJoin at o
  cases e1 : seqOf rb.d with
  | none =>
    rw [e1] at o
    exact o.elim
  | some xs =>
    obtain ⟨b, vs, f', ex, hv, rr, z⟩ := g.rep.seqL (seqOf_vw e1)
    rw [e1] at o
    cases e2 : strsOf xs with
    | none =>
      simp only [Option.bind_some, e2] at o
      exact o.elim
    | some ns =>
      simp only [Option.bind_some, e2] at o
      obtain ⟨q1, _⟩ := strsOf_reps rr e2
      subst ex
      rw [q1] at hv
      by_cases h : (ns.map (·.length)).sum + ns.length * a.length ≤ 1000000
      · rw [if_pos h] at o
        refine ⟨mkS a, b, ns.map mkS, rfl, rfl, .inl hv, ?_, ?_⟩
        · have : (ns.map mkS).map (·.length) = ns.map (·.length) := by
            rw [List.map_map]
            apply List.map_congr_left
            intro n _
            exact mkS_len n
          rw [this, List.length_map, mkS_len]
          omega
        · rw [join_tl]
          exact o.flat mk_str
      · rw [if_neg h] at o
        exact o.elim
theorem ev_join {apos pos : Pos} {o e : Expr} {f fo : Sto → Res Rs} (ho : Ev X W o fo) (he : Ev X W e f) (hs : starEach [e] X.env = [(false, eval e X.env)] := by rfl) (hbase : attributeBase o "join" X.env (eval o X.env) = eval o X.env := by rfl) (hline : (apos.endLine == pos.line) = true := by rfl) : Ev X W (.Call (.Attribute o "join" apos) [e] [] pos) (fM1 gJoin fo f) :=
  ev_m1 PySem.F.slot_str_join PySem.F.type_str_join mt_join mts_join ho he hs hbase hline
end
end PV

/-! PV8: what is walked, targets, list comprehensions over pure data. -/
namespace PV
open PySem PySem.Spec L2

/-! ### what is walked -/
/-- J gives these data in turn, while what it leans on stands -/
structure ItOk (G : Glo) (H0 : Hp) (F : Fp) (items : List Dat) (src : List Nat) (J : It) (H1 : Hp) (fp : List Addr) (Gd : Hp → Prop) : Prop where
  now : Gd H1
  walk : Walk J items.length Gd (fun i H x H' => Same H H' ∧ ∃ d f, items[i]? = some d ∧ Rep G H' d x f ∧ ∀ a ∈ f, a ∈ fp)
  keep : ∀ W H H', Gd H → Kf W H H' → (∀ a ∈ fp, a ∉ W) → Gd H'
  trk : ∀ H, Gd H → ∀ a ∈ fp, H a ≠ none
  src : ∀ a ∈ fp, H0 a = none ∨ ∃ i ∈ src, a ∈ F i
  unl : ∀ H H' d od kvs, Gd H → H d = some (.dK kvs) → Gd H' → H' d = some (.frz od (.dK kvs)) → Gd (upd H' d (.dK kvs))
theorem ItOk.ofKp {G : Glo} {H0 : Hp} {F : Fp} {items : List Dat} {src : List Nat} {J : It} {H1 : Hp} {fp : List Addr} {Gd : Hp → Prop} (now : Gd H1) (walk : Walk J items.length Gd (fun i H x H' => Same H H' ∧ ∃ d f, items[i]? = some d ∧ Rep G H' d x f ∧ ∀ a ∈ f, a ∈ fp))
    (kp : ∀ W H H', Gd H → Kp W H H' → (∀ a ∈ fp, a ∉ W) → Gd H') (trk : ∀ H, Gd H → ∀ a ∈ fp, H a ≠ none) (hsrc : ∀ a ∈ fp, H0 a = none ∨ ∃ i ∈ src, a ∈ F i) : ItOk G H0 F items src J H1 fp Gd :=
  ⟨now, walk, fun W H H' g kf n => kp W H H' g kf.kp n, trk, hsrc, fun H H' d od kvs _ _ g e => kp [] _ _ g (Kp.unl e) (fun _ _ => by simp)⟩
def tEi (X : Cx) (W : WX) (fi : Sto → Res (List Dat × List Nat)) : TI := fun σ H R => ∃ E F, RepE (glo X) H E σ F ∧ match fi E with
  | .ok (items, src) => ∀ J H1 fp Gd, Same H H1 → ItOk (glo X) H F items src J H1 fp Gd → R J H1
  | .exc c => ∀ C H', X.mg (mkS c) = some (.ref C) → Same H H' → W (.ref C) none σ H'
  | .no => False
structure Ei (X : Cx) (W : WX) (tg e : Expr) (fi : Sto → Res (List Dat × List Nat)) : Prop where
  pi : PI X tg e (tEi X W fi)
section
variable {X : Cx} {W : WX} {k : Nat}
theorem weakI {tg e : Expr} {t t' : TI} (p : PI X tg e t) (w : ∀ σ H R, t' σ H R → t σ H R) : PI X tg e t' := ⟨fun pins s σ H R I h => p.run pins s σ H R I (w σ H R h)⟩
theorem pi_orI {tg e : Expr} {t t' : TI} (p : PI X tg e t) (p' : PI X tg e t') : PI X tg e (fun σ H R => t σ H R ∨ t' σ H R) := ⟨fun pins s σ H R I h => h.elim (p.run pins s σ H R I) (p'.run pins s σ H R I)⟩
/-- a list, a tuple, a text -/
def gItems (r : Rs) : Res (List Dat × List Nat) := match r.d with
  | .lst xs => .ok (xs, r.src)
  | .rol xs => .ok (xs, r.src)
  | .tup xs => .ok (xs, r.src)
  | .str x => .ok (x.map (fun c => Dat.str [c]), [])
  | _ => .no
def iOf (f : Sto → Res Rs) : Sto → Res (List Dat × List Nat) := fun E => (f E).bind gItems
theorem seqI {f : Sto → Res Rs} {E : Sto} {F : Fp} {σ : L2.St} {H : Hp} {Q' : VK} {R : It → Hp → Prop} {kk : Rs → Res (List Dat × List Nat)} (re : RepE (glo X) H E σ F)
    (o : match (f E).bind kk with
      | .ok (items, src) => ∀ J H1 fp Gd, Same H H1 → ItOk (glo X) H F items src J H1 fp Gd → R J H1
      | .exc c => ∀ C H', X.mg (mkS c) = some (.ref C) → Same H H' → W (.ref C) none σ H'
      | .no => False)
    (h : ∀ r v H1 fp, f E = .ok r → Same H H1 → Gv (glo X) H F r v H1 fp → (match kk r with
      | .ok (items, src) => ∀ J H1 fp Gd, Same H H1 → ItOk (glo X) H F items src J H1 fp Gd → R J H1
      | .exc c => ∀ C H', X.mg (mkS c) = some (.ref C) → Same H H' → W (.ref C) none σ H'
      | .no => False) → Q' v H1) : tEv X W f σ H Q' := by
  refine ⟨E, F, re, ?_⟩
  cases e : f E with
  | no =>
    rw [e] at o
    exact o
  | exc c =>
    rw [e] at o
    exact o
  | ok r =>
    intro v H1 fp s1 g
    rw [e] at o
    exact h r v H1 fp e s1 g o
theorem itok_list {G : Glo} {H0 H1 : Hp} {F : Fp} {xs : List Dat} {src : List Nat} {a : Addr} {vs : List V} {f : List Addr} (h : H1 a = some (.lst vs)) (r : RepL G H1 xs vs f) (hs : ∀ b ∈ a :: f, H0 b = none ∨ ∃ i ∈ src, b ∈ F i) :
    ItOk G H0 F xs src (Itl G.K a) H1 (a :: f) (fun H => H a = some (.lst vs) ∧ RepL G H xs vs f) := by
  refine .ofKp ⟨h, r⟩ ?_ (fun W H H' ⟨g1, g2⟩ kp n => ⟨kp.lst a vs (n a (by simp)) g1, RepL.kp kp xs vs f g2 fun b hb => n b (by simp [hb])⟩) (fun H ⟨g1, g2⟩ b hb => ?_) hs
  · have w := (walk_list (K := G.K) (a := a) (xs := vs))
    rw [r.len] at w
    refine w.mono (fun H g => .inl (.inl g.1)) fun i H x H' hi g y => ?_
    obtain ⟨e, hx⟩ := y
    subst e
    obtain ⟨v, f', q1, q2, q3⟩ := g.2.at (List.getElem?_eq_getElem hi)
    rw [hx] at q1
    injection q1 with q1
    subst q1
    exact ⟨Same.refl _, _, f', List.getElem?_eq_getElem hi, q2, fun b hb => by simp [q3 b hb]⟩
  · rcases List.mem_cons.mp hb with z | z
    · rw [z, g1]
      simp
    · exact RepL.trk _ _ _ g2 b z
theorem itok_rol {G : Glo} {H0 H1 : Hp} {F : Fp} {xs : List Dat} {src : List Nat} {a : Addr} {vs : List V} {f : List Addr} (h : RoL G.K H1 a vs) (r : RepL G H1 xs vs f) (hs : ∀ b ∈ f, H0 b = none ∨ ∃ i ∈ src, b ∈ F i) :
    ItOk G H0 F xs src (Itl G.K a) H1 f (fun H => RoL G.K H a vs ∧ RepL G H xs vs f) := by
  refine .ofKp ⟨h, r⟩ ?_ (fun W H H' ⟨g1, g2⟩ kp n => ⟨g1.imp (kp.frl a vs) id, RepL.kp kp xs vs f g2 n⟩) (fun H ⟨g1, g2⟩ b hb => RepL.trk _ _ _ g2 b hb) hs
  have w := (walk_list (K := G.K) (a := a) (xs := vs))
  rw [r.len] at w
  refine w.mono (fun H g => g.1.elim (fun ⟨o, q⟩ => .inl (.inr ⟨o, q⟩)) .inr) fun i H x H' hi g y => ?_
  obtain ⟨e, hx⟩ := y
  subst e
  obtain ⟨v, f', q1, q2, q3⟩ := g.2.at (List.getElem?_eq_getElem hi)
  rw [hx] at q1
  injection q1 with q1
  subst q1
  exact ⟨Same.refl _, _, f', List.getElem?_eq_getElem hi, q2, q3⟩
theorem itok_tup {G : Glo} {H0 H1 : Hp} {F : Fp} {xs : List Dat} {src : List Nat} {a : Addr} {vs : List V} {f : List Addr} (h : SqT G.K H1 a vs) (r : RepL G H1 xs vs f) (hs : ∀ b ∈ f, H0 b = none ∨ ∃ i ∈ src, b ∈ F i) :
    ItOk G H0 F xs src (Itt G.K a) H1 f (fun H => SqT G.K H a vs ∧ RepL G H xs vs f) := by
  refine .ofKp ⟨h, r⟩ ?_ (fun W H H' ⟨g1, g2⟩ kp n => ⟨g1.imp (kp.tup a vs) id, RepL.kp kp xs vs f g2 n⟩) (fun H ⟨g1, g2⟩ b hb => RepL.trk _ _ _ g2 b hb) hs
  have w := (walk_tup (K := G.K) (a := a) (xs := vs))
  rw [r.len] at w
  refine w.mono (fun H g => g.1) fun i H x H' hi g y => ?_
  obtain ⟨e, hx⟩ := y
  subst e
  obtain ⟨v, f', q1, q2, q3⟩ := g.2.at (List.getElem?_eq_getElem hi)
  rw [hx] at q1
  injection q1 with q1
  subst q1
  exact ⟨Same.refl _, _, f', List.getElem?_eq_getElem hi, q2, q3⟩
theorem itok_str {G : Glo} {H0 H1 : Hp} {F : Fp} {x : Tx} : ItOk G H0 F (x.map (fun c => Dat.str [c])) [] (Its (mkS x)) H1 [] (fun _ => True) := by
  refine .ofKp trivial ?_ (fun _ _ _ _ _ _ => trivial) (fun _ _ _ z => nomatch z) (fun _ z => nomatch z)
  have w := (walk_str (z := mkS x))
  have e : (mkS x).cps.size = (x.map (fun c => Dat.str [c])).length := by
    rw [List.length_map]
    show x.toArray.size = _
    simp
  rw [e] at w
  refine w.mono (fun H g => trivial) fun i H y H' hi g q => ?_
  obtain ⟨e1, c, hc, ey⟩ := q
  subst e1
  subst ey
  have hc' : x[i]? = some c := by
    have : (mkS x).cps[i]? = x[i]? := by
      show x.toArray[i]? = _
      simp
    rw [← this]
    exact hc
  refine ⟨Same.refl _, .str [c], [], ?_, ?_, (fun _ z => nomatch z)⟩
  · rw [List.getElem?_map, hc']
    rfl
  · exact mk_str (x := [c])
theorem itok_none {G : Glo} {H0 H1 : Hp} {F : Fp} {lo : Int} {n : Nat} : ItOk G H0 F ((List.range n).map (fun (i : Nat) => Dat.int (lo + i))) [] (Itr lo n) H1 [] (fun _ => True) := by
  refine .ofKp trivial ?_ (fun _ _ _ _ _ _ => trivial) (fun _ _ _ z => nomatch z) (fun _ z => nomatch z)
  have w := (walk_range (lo := lo) (n := n))
  rw [List.length_map, List.length_range]
  refine w.mono (fun H g => trivial) fun i H y H' hi g q => ?_
  obtain ⟨e1, ey⟩ := q
  subst e1
  subst ey
  refine ⟨Same.refl _, .int (lo + i), [], ?_, mk_int, (fun _ z => nomatch z)⟩
  rw [List.getElem?_map, List.getElem?_range hi]
  rfl
theorem ei_of {tg e : Expr} {f : Sto → Res Rs} (h : Ev X W e f) : Ei X W tg e (iOf f) := by
  refine ⟨weakI (pi_orI (pi_orI (pi_list h.pe) (pi_tup h.pe)) (pi_str h.pe)) fun σ H R ⟨E, F, re, o⟩ => ?_⟩
  have o : (match (f E).bind gItems with
      | .ok (items, src) => ∀ J H1 fp Gd, Same H H1 → ItOk (glo X) H F items src J H1 fp Gd → R J H1
      | .exc c => ∀ C H', X.mg (mkS c) = some (.ref C) → Same H H' → W (.ref C) none σ H'
      | .no => False) := o
  cases e0 : f E with
  | no =>
    rw [e0] at o
    exact o.elim
  | exc c =>
    left; left
    exact seqI (kk := gItems) re o fun r v H1 fp e1 => by
      rw [e0] at e1
      cases e1
  | ok r0 =>
    cases ed : r0.d with
    | lst xs =>
      left; left
      refine seqI (kk := gItems) re o fun r v H1 fp e1 s1 g o1 => ?_
      rw [e0] at e1
      cases e1
      have p := g.rep
      rw [ed] at p
      obtain ⟨a, vs, f', ex, hv, rr, z⟩ := rep_lst p
      simp only [gItems, ed] at o1
      refine ⟨a, ex, ⟨vs, .inl (.inl hv)⟩, o1 _ H1 (a :: f') _ s1 (itok_list (G := glo X) hv rr fun b hb => g.prv.src b (by rw [z]; exact hb))⟩
    | rol xs =>
      left; left
      refine seqI (kk := gItems) re o fun r v H1 fp e1 s1 g o1 => ?_
      rw [e0] at e1
      cases e1
      have p := g.rep
      rw [ed] at p
      simp only [Rep] at p
      obtain ⟨a, vs, ex, hv, rr⟩ := p
      simp only [gItems, ed] at o1
      exact ⟨a, ex, ⟨vs, hv.elim (fun ⟨o, q⟩ => .inl (.inr ⟨o, q⟩)) .inr⟩, o1 _ H1 fp _ s1 (itok_rol (G := glo X) hv rr g.prv.src)⟩
    | tup xs =>
      left; right
      refine seqI (kk := gItems) re o fun r v H1 fp e1 s1 g o1 => ?_
      rw [e0] at e1
      cases e1
      have p := g.rep
      rw [ed] at p
      simp only [Rep] at p
      obtain ⟨a, vs, ex, hv, rr⟩ := p
      simp only [gItems, ed] at o1
      exact ⟨a, ex, ⟨vs, hv⟩, o1 _ H1 fp _ s1 (itok_tup (G := glo X) hv rr g.prv.src)⟩
    | str x =>
      right
      refine seqI (kk := gItems) re o fun r v H1 fp e1 s1 g o1 => ?_
      rw [e0] at e1
      cases e1
      have p := g.rep
      rw [ed] at p
      simp only [gItems, ed] at o1
      exact ⟨mkS x, rep_str p, o1 _ H1 [] _ s1 itok_str⟩
    | _ =>
      rw [e0] at o
      simp only [bind_ok, gItems, ed] at o
/-- range(n), range(a, b) -/
def gRange1 (r : Rs) : Res (List Dat × List Nat) := match r.d with
  | .int j => if -1000000 ≤ j ∧ j ≤ 1000000 then .ok ((List.range j.toNat).map (fun (i : Nat) => Dat.int (0 + i)), []) else .no
  | _ => .no
def iRange1 (f : Sto → Res Rs) : Sto → Res (List Dat × List Nat) := fun E => (f E).bind gRange1
theorem ei_range1 {tg a : Expr} {p pos : Pos} {f : Sto → Res Rs} (hm : X.mg "range" = none) (h : Ev X W a f) (hg : Gl X "range" := by rfl) (hs : starEach [a] X.env = (false, eval a X.env) :: starEach [] X.env := by rfl) : Ei X W tg (.Call (.Name "range" p) [a] [] pos) (iRange1 f) := by
  refine ⟨weakI (pi_range1 hg hm (pa_cons h.pe pa_nil hs) hs) fun σ H R ⟨E, F, re, o⟩ => ?_⟩
  refine seqI (kk := gRange1) re o fun r v H1 fp e1 s1 g o1 => ?_
  have p := g.rep
  unfold gRange1 at o1
  cases ed : r.d with
  | int j =>
    simp only [ed] at o1
    rw [ed] at p
    by_cases hj : -1000000 ≤ j ∧ j ≤ 1000000
    · rw [if_pos hj] at o1
      refine ⟨j, by rw [rep_int p], by omega, by omega, ?_⟩
      exact o1 _ H1 [] _ s1 itok_none
    · rw [if_neg hj] at o1
      exact o1.elim
  | _ =>
    simp only [ed] at o1

/-! ### targets -/
inductive Tgt where
  | one (i : Nat) | many (l : List Nat)
def bindL : List Nat → List Dat → Sto → Option Sto
  | [], [], E => some E
  | i :: l, d :: ds, E => if i < E.length then bindL l ds (E.set i (some (d, .shr))) else none
  | _, _, _ => none
def bindT : Tgt → Dat → Sto → Option Sto
  | .one i, d, E => if i < E.length then some (E.set i (some (d, .shr))) else none
  | .many l, .tup ds, E => bindL l ds E
  | _, _, _ => none
def gL : List Nat → TGs
  | [] => gNil
  | i :: l => gCons (gName i) (gL l)
def gT (K : PySem.W.Frag) : Tgt → TG
  | .one i => gName i
  | .many l => gTup K l.length (gL l)
def slotsT : Tgt → List Nat
  | .one i => [i]
  | .many l => l
theorem slot_set {E : Sto} {i j : Nat} {x : Dat × Kd} (hi : i < E.length) : slot (E.set i (some x)) j = if j = i then some x else slot E j := by
  unfold slot
  by_cases h : j = i
  · subst h
    rw [if_pos rfl, List.getElem?_set_self hi]
  · rw [if_neg h, List.getElem?_set_ne (Ne.symm h)]
theorem slot_set_none {E : Sto} {i j : Nat} : slot (E.set i none) j = if j = i then none else slot E j := by
  unfold slot
  by_cases h : j = i
  · subst h
    rw [if_pos rfl]
    by_cases hl : j < E.length
    · rw [List.getElem?_set_self hl]
    · rw [List.getElem?_eq_none (by simpa using hl)]
  · rw [if_neg h, List.getElem?_set_ne (Ne.symm h)]
/-- a slot given -/
theorem RepE.set {G : Glo} {H : Hp} {E : Sto} {σ : L2.St} {F : Fp} {i : Nat} {d : Dat} {kd : Kd} {v : V} {f : List Addr} (r : RepE G H E σ F) (hi : i < E.length) (h : Rep G H d v f) :
    RepE G H (E.set i (some (d, kd))) (σ.set i (some v)) (fun j => if j = i then f else F j) := by
  have hs : i < σ.length := by
    rw [← r.len]
    exact hi
  refine ⟨by simp [r.len], fun j d' k' e => ?_, fun j e => ?_⟩
  · rw [slot_set hi] at e
    by_cases hj : j = i
    · subst hj
      rw [if_pos rfl] at e
      injection e with e
      cases e
      exact ⟨v, by rw [List.getElem?_set_self hs], by simpa using h⟩
    · rw [if_neg hj] at e
      obtain ⟨u, q1, q2⟩ := r.rep j d' k' e
      exact ⟨u, by rw [List.getElem?_set_ne (Ne.symm hj)]; exact q1, by simpa [hj] using q2⟩
  · rw [slot_set hi] at e
    by_cases hj : j = i
    · rw [if_pos hj] at e
      cases e
    · rw [if_neg hj] at e
      show (if j = i then f else F j) = []
      rw [if_neg hj]
      exact r.emp j e
/-- a slot forgotten -/
theorem RepE.drop {G : Glo} {H : Hp} {E : Sto} {σ : L2.St} {F : Fp} {i : Nat} {o : Option V} (r : RepE G H E σ F) : RepE G H (E.set i none) (σ.set i o) (fun j => if j = i then [] else F j) := by
  refine ⟨by simp [r.len], fun j d' k' e => ?_, fun j e => ?_⟩
  · rw [slot_set_none] at e
    by_cases hj : j = i
    · rw [if_pos hj] at e
      cases e
    · rw [if_neg hj] at e
      obtain ⟨u, q1, q2⟩ := r.rep j d' k' e
      exact ⟨u, by rw [List.getElem?_set_ne (Ne.symm hj)]; exact q1, by simpa [hj] using q2⟩
  · rw [slot_set_none] at e
    by_cases hj : j = i
    · show (if j = i then [] else F j) = []
      rw [if_pos hj]
    · rw [if_neg hj] at e
      show (if j = i then [] else F j) = []
      rw [if_neg hj]
      exact r.emp j e
/-- what a bound target leaves -/
structure Bnd (G : Glo) (H : Hp) (E : Sto) (σ : L2.St) (F : Fp) (l : List Nat) (f : List Addr) (E1 : Sto) (σ1 : L2.St) (F1 : Fp) : Prop where
  rep : RepE G H E1 σ1 F1
  out : ∀ j, j ∉ l → F1 j = F j ∧ slot E1 j = slot E j
  inn : ∀ j, j ∈ l → ∀ a ∈ F1 j, a ∈ f
  wip : ∀ vs : List Nat, (∀ i ∈ l, i ∈ vs) → wipe σ1 vs = wipe σ vs
  kin : ∀ j d k, j ∈ l → slot E1 j = some (d, k) → k = .shr
theorem wipe_set {σ : L2.St} {i : Nat} {o : Option V} : ∀ {vs : List Nat}, i ∈ vs → wipe (σ.set i o) vs = wipe σ vs
  | [], h => nomatch h
  | v :: vs, h => by
    show (wipe (σ.set i o) vs).set v none = (wipe σ vs).set v none
    by_cases hi : i ∈ vs
    · rw [wipe_set hi]
    · have e : i = v := (List.mem_cons.mp h).resolve_right hi
      subst e
      exact wipe_set' hi
where
  wipe_set' {σ : L2.St} {i : Nat} {o : Option V} : ∀ {vs : List Nat}, i ∉ vs → (wipe (σ.set i o) vs).set i none = (wipe σ vs).set i none
    | [], _ => by
      show (σ.set i o).set i none = σ.set i none
      rw [List.set_set]
    | v :: vs, h => by
      have hv : i ≠ v := fun e => h (by simp [e])
      show ((wipe (σ.set i o) vs).set v none).set i none = ((wipe σ vs).set v none).set i none
      rw [List.set_comm _ _ (Ne.symm hv), List.set_comm _ _ (Ne.symm hv), wipe_set' (fun z => h (by simp [z]))]
theorem bind_one {G : Glo} {H : Hp} {E : Sto} {σ : L2.St} {F : Fp} {i : Nat} {d : Dat} {v : V} {f : List Addr} (r : RepE G H E σ F) (hi : i < E.length) (h : Rep G H d v f) :
    Bnd G H E σ F [i] f (E.set i (some (d, .shr))) (σ.set i (some v)) (fun j => if j = i then f else F j) := by
  refine ⟨r.set hi h, fun j hj => ?_, fun j hj a ha => ?_, fun vs hv => wipe_set (hv i (by simp)), fun j d' k' hj e => ?_⟩
  · have : j ≠ i := fun e => hj (by simp [e])
    exact ⟨by simp [this], by rw [slot_set hi, if_neg this]⟩
  · have : j = i := by simpa using hj
    simpa [this] using ha
  · have : j = i := by simpa using hj
    rw [slot_set hi, if_pos this] at e
    cases e
    rfl
theorem bind_many {G : Glo} {H : Hp} : ∀ {l : List Nat} {ds : List Dat} {vs : List V} {f fp : List Addr} {E E1 : Sto} {σ : L2.St} {F : Fp} {Q : L2.St → Hp → Prop}, RepE G H E σ F → RepL G H ds vs f → (∀ a ∈ f, a ∈ fp) → bindL l ds E = some E1 →
    (∀ σ1 F1, Bnd G H E σ F l fp E1 σ1 F1 → Q σ1 H) → gL l vs σ H Q
  | [], [], vs, f, fp, E, E1, σ, F, Q, r, rl, hf, e, h => by
    simp only [RepL] at rl
    simp only [bindL] at e
    cases e
    refine ⟨rl.1, h σ F ⟨r, fun j _ => ⟨rfl, rfl⟩, (fun j hj => nomatch hj), fun vs _ => rfl, (fun j _ _ hj => nomatch hj)⟩⟩
  | [], _ :: _, vs, f, fp, E, E1, σ, F, Q, r, rl, hf, e, h => by simp only [bindL] at e; cases e
  | _ :: _, [], vs, f, fp, E, E1, σ, F, Q, r, rl, hf, e, h => by simp only [bindL] at e; cases e
  | i :: l, d :: ds, vs, f, fp, E, E1, σ, F, Q, r, rl, hf, e, h => by
    simp only [RepL] at rl
    obtain ⟨v, vs', f1, f2, e1, e2, r1, rr⟩ := rl
    subst e1
    subst e2
    simp only [bindL] at e
    by_cases hi : i < E.length
    · rw [if_pos hi] at e
      have b1 := bind_one r hi r1
      refine ⟨v, vs', rfl, ?_⟩
      refine bind_many b1.rep rr (fun a ha => hf a (by simp [ha])) e fun σ1 F1 b2 => h σ1 F1 ?_
      refine ⟨b2.rep, fun j hj => ?_, fun j hj a ha => ?_, fun vs hv => ?_, fun j d' k' hj e' => ?_⟩
      · have h1 : j ∉ l := fun z => hj (by simp [z])
        have h2 : j ∉ [i] := fun z => hj (by simp at z; simp [z])
        exact ⟨(b2.out j h1).1.trans (b1.out j h2).1, (b2.out j h1).2.trans (b1.out j h2).2⟩
      · by_cases hl : j ∈ l
        · exact b2.inn j hl a ha
        · rw [(b2.out j hl).1] at ha
          have : j = i := (List.mem_cons.mp hj).resolve_right hl
          exact hf a (by simp [b1.inn j (by simp [this]) a ha])
      · rw [b2.wip vs fun z hz => hv z (by simp [hz])]
        exact b1.wip vs fun z hz => hv z (by simp at hz; simp [hz])
      · by_cases hl : j ∈ l
        · exact b2.kin j d' k' hl e'
        · rw [(b2.out j hl).2] at e'
          have : j = i := (List.mem_cons.mp hj).resolve_right hl
          exact b1.kin j d' k' (by simp [this]) e'
    · rw [if_neg hi] at e
      cases e
theorem bind_tg {G : Glo} {H : Hp} {T : Tgt} {d : Dat} {v : V} {f : List Addr} {E E1 : Sto} {σ : L2.St} {F : Fp} {Q : L2.St → Hp → Prop} (r : RepE G H E σ F) (h : Rep G H d v f) (e : bindT T d E = some E1)
    (hq : ∀ σ1 F1, Bnd G H E σ F (slotsT T) f E1 σ1 F1 → Q σ1 H) : gT G.K T v σ H Q := by
  cases T with
  | one i =>
    simp only [bindT] at e
    by_cases hi : i < E.length
    · rw [if_pos hi] at e
      cases e
      exact hq _ _ (bind_one r hi h)
    · rw [if_neg hi] at e
      cases e
  | many l =>
    cases d with
    | tup ds =>
      simp only [bindT] at e
      simp only [Rep] at h
      obtain ⟨a, vs, ev, hs, rl⟩ := h
      refine ⟨a, vs, ev, hs, ?_, bind_many r rl (fun _ z => z) e hq⟩
      rw [rl.len]
      exact bindL_len e
    | _ =>
      simp only [bindT] at e
      cases e
where
  bindL_len : ∀ {l : List Nat} {ds : List Dat} {E E1 : Sto}, bindL l ds E = some E1 → ds.length = l.length
    | [], [], _, _, _ => rfl
    | [], _ :: _, _, _, e => by simp only [bindL] at e; cases e
    | _ :: _, [], _, _, e => by simp only [bindL] at e; cases e
    | i :: l, d :: ds, E, E1, e => by
      simp only [bindL] at e
      by_cases hi : i < E.length
      · rw [if_pos hi] at e
        show ds.length + 1 = l.length + 1
        rw [bindL_len e]
      · rw [if_neg hi] at e
        cases e
end
end PV

/-! PV9: list comprehensions over pure data. -/
namespace PV
open PySem PySem.Spec L2
abbrev Wn : WX := fun _ _ _ _ => False
def wipeE (E : Sto) : List Nat → Sto
  | [] => E
  | v :: vs => (wipeE E vs).set v none
theorem wipe_wipe {σ : L2.St} : ∀ vs : List Nat, wipe (wipe σ vs) vs = wipe σ vs := by
  have key : ∀ (us vs : List Nat), (∀ i ∈ us, i ∈ vs) → wipe (wipe σ us) vs = wipe σ vs := by
    intro us
    induction us with
    | nil => exact fun vs _ => rfl
    | cons u us ih =>
      intro vs h
      show wipe ((wipe σ us).set u none) vs = _
      rw [wipe_set (h u (by simp))]
      exact ih vs fun i hi => h i (by simp [hi])
  exact fun vs => key vs vs fun _ h => h
theorem RepE.wipe {G : Glo} {H : Hp} {E : Sto} {σ : L2.St} {F : Fp} (r : RepE G H E σ F) : ∀ vs : List Nat, RepE G H (wipeE E vs) (L2.wipe σ vs) (fun j => if j ∈ vs then [] else F j)
  | [] => by
    have : (fun j => if j ∈ ([] : List Nat) then ([] : List Addr) else F j) = F := by
      funext j
      simp
    rw [this]
    exact r
  | v :: vs => by
    have h := (r.wipe vs).drop (i := v) (o := none)
    have : (fun j => if j ∈ v :: vs then ([] : List Addr) else F j) = (fun j => if j = v then [] else if j ∈ vs then [] else F j) := by
      funext j
      by_cases h1 : j = v
      · simp [h1]
      · by_cases h2 : j ∈ vs <;> simp [h1, h2]
    rw [this]
    exact h
def compGo (st : Dat → Res (Option Rs)) : List Dat → Res (List Rs)
  | [] => .ok []
  | d :: ds => (st d).bind fun o => (compGo st ds).bind fun rs => .ok (o.toList ++ rs)
def stepC (T : Tgt) (E : Sto) (ft : Sto → Res Bool) (fe : Sto → Res Rs) (d : Dat) : Res (Option Rs) := match bindT T d E with
  | none => .no
  | some E1 => (ft E1).bind fun b => if b then (fe E1).bind fun r => .ok (some r) else .ok none
def isDeep (r : Rs) : Bool := match r.mv with
  | some [] => true
  | _ => false
def rComp (T : Tgt) (rs : List Rs) (src : List Nat) : Rs := ⟨.lst (rs.map (·.d)), true, (allSrc rs).filter (fun j => decide (j ∉ slotsT T)) ++ src, if rs.all isDeep then some [] else none⟩
def fComp (T : Tgt) (own : List Nat) (fi : Sto → Res (List Dat × List Nat)) (ft : Sto → Res Bool) (fe : Sto → Res Rs) : Sto → Res Rs := fun E => (fi E).bind fun p => match compGo (stepC T (wipeE E own) ft fe) p.1 with
  | .ok rs => if rs.length ≤ 1000000 then .ok (rComp T rs p.2) else .no
  | _ => .no
theorem compGo_app {st : Dat → Res (Option Rs)} : ∀ (xs ys : List Dat), compGo st (xs ++ ys) = (compGo st xs).bind fun a => (compGo st ys).bind fun b => .ok (a ++ b)
  | [], ys => by
    show compGo st ys = (compGo st ys).bind fun b => .ok ([] ++ b)
    cases compGo st ys <;> rfl
  | x :: xs, ys => by
    show (st x).bind _ = _
    have ih := compGo_app (st := st) xs ys
    simp only [List.append_eq, ih, compGo]
    cases st x <;> simp only [Res.bind]
    cases compGo st xs <;> simp only [Res.bind]
    cases compGo st ys <;> simp only [Res.bind, List.append_assoc]
theorem compGo_take {st : Dat → Res (Option Rs)} {items : List Dat} {rs : List Rs} (h : compGo st items = .ok rs) (i : Nat) : ∃ a, compGo st (items.take i) = .ok a ∧ a.length ≤ rs.length := by
  have e := compGo_app (st := st) (items.take i) (items.drop i)
  rw [List.take_append_drop, h] at e
  cases e1 : compGo st (items.take i) with
  | no =>
    rw [e1] at e
    cases e
  | exc c =>
    rw [e1] at e
    cases e
  | ok a =>
    refine ⟨a, rfl, ?_⟩
    rw [e1] at e
    cases e2 : compGo st (items.drop i) with
    | no =>
      rw [e2] at e
      cases e
    | exc c =>
      rw [e2] at e
      cases e
    | ok b =>
      rw [e2] at e
      have e : Res.ok rs = Res.ok (a ++ b) := e
      injection e with e
      rw [e]
      simp
theorem compGo_step {st : Dat → Res (Option Rs)} {items : List Dat} {rs a : List Rs} {i : Nat} {d : Dat} (h : compGo st items = .ok rs) (hd : items[i]? = some d) (ha : compGo st (items.take i) = .ok a) :
    ∃ o, st d = .ok o ∧ compGo st (items.take (i + 1)) = .ok (a ++ o.toList) := by
  have et : items.take (i + 1) = items.take i ++ [d] := by
    rw [List.take_add_one, hd]
    rfl
  obtain ⟨b, hb, _⟩ := compGo_take h (i + 1)
  rw [et, compGo_app, ha] at hb
  simp only [Res.bind, compGo] at hb
  cases e : st d with
  | no =>
    rw [e] at hb
    cases hb
  | exc c =>
    rw [e] at hb
    cases hb
  | ok o =>
    refine ⟨o, rfl, ?_⟩
    rw [et, compGo_app, ha]
    simp only [Res.bind, compGo, e, List.append_nil]
section
variable {X : Cx} {W : WX} {k : Nat}
/-- the new list so far -/
structure Acc (G : Glo) (H : Hp) (F : Fp) (T : Tgt) (src : List Nat) (D : Addr) (rs : List Rs) (H' : Hp) (acc : List V) (fpa : List Addr) : Prop where
  at_ : H' D = some (.lst acc)
  rep : RepL G H' (rs.map (·.d)) acc fpa
  nd : D ∉ fpa
  src : ∀ a ∈ fpa, H a = none ∨ ∃ j ∈ (allSrc rs).filter (fun j => decide (j ∉ slotsT T)) ++ src, a ∈ F j
  deep : rs.all isDeep = true → fpa.Nodup ∧ ∀ a ∈ fpa, H a = none ∧ Wr H' a
theorem comp_lc {T : Tgt} {own : List Nat} {fi : Sto → Res (List Dat × List Nat)} {ft : Sto → Res Bool} {fe : Sto → Res Rs} (hT : ∀ i ∈ slotsT T, i ∈ own) {σ : L2.St} {H : Hp} {Q : VK} (h : tEv X W (fComp T own fi ft fe) σ H Q) :
    tLc (tEi X W fi) (gT X.K T) (tEt X Wn ft) (tEv X Wn fe) own σ H Q := by
  obtain ⟨E, F, re, o⟩ := h
  refine ⟨E, F, re, ?_⟩
  unfold fComp at o
  cases e0 : fi E with
  | no =>
    rw [e0] at o
    exact o
  | exc c =>
    rw [e0] at o
    exact o
  | ok p =>
    obtain ⟨items, src⟩ := p
    rw [e0] at o
    simp only [bind_ok] at o
    intro J H1 fp Gd s1 it D hD
    cases e1 : compGo (stepC T (wipeE E own) ft fe) items with
    | no =>
      rw [e1] at o
      exact o.elim
    | exc c =>
      rw [e1] at o
      exact o.elim
    | ok rs =>
      simp only [e1] at o
      by_cases hl : rs.length ≤ 1000000
      · rw [if_pos hl] at o
        have hD0 : H D = none := s1.free hD
        have nfp : D ∉ fp := fun z => it.trk H1 it.now D z hD
        have nF : ∀ j, D ∉ F j := fun j z => re.trk j D z hD0
        have s1D : Same H1 (upd H1 D (.lst [])) := same_new hD
        refine lc_it it.walk (fun i H' => Gd H' ∧ Same H1 H' ∧ ∃ a acc fpa, compGo (stepC T (wipeE E own) ft fe) (items.take i) = .ok a ∧ Acc (glo X) H F T src D a H' acc fpa) ?_ (fun i H' _ q => q.1) ?_ ?_
        · refine ⟨it.keep [] _ _ it.now (Kf.same s1D) (fun _ _ => by simp), s1D, [], [], [], rfl, upd_same, RepL.nil, by simp, (fun _ z => nomatch z), fun _ => ⟨.nil, (fun _ z => nomatch z)⟩⟩
        · rintro i x H2 H3 hi ⟨g2, s2, a, acc, fpa, ea, A⟩ ⟨s3, d, f, hd, rd, hf⟩
          obtain ⟨oo, est, enx⟩ := compGo_step e1 hd ea
          have s03 : Same H H3 := s1.trans (s2.trans s3)
          unfold stepC at est
          cases eb : bindT T d (wipeE E own) with
          | none =>
            rw [eb] at est
            cases est
          | some E1 =>
            simp only [eb] at est
            refine bind_tg (G := glo X) ((re.same s03).wipe own) rd eb fun σ1 F1 B => ⟨(B.wip own hT).trans (wipe_wipe own), E1, F1, B.rep, ?_⟩
            have hF1 : ∀ j, ∀ b ∈ F1 j, (j ∈ slotsT T ∧ b ∈ f) ∨ (j ∉ slotsT T ∧ b ∈ F j) := by
              intro j b hb
              by_cases hj : j ∈ slotsT T
              · exact .inl ⟨hj, B.inn j hj b hb⟩
              · rw [(B.out j hj).1] at hb
                by_cases ho : j ∈ own
                · simp [ho] at hb
                · simp only [ho, if_false] at hb
                  exact .inr ⟨hj, hb⟩
            cases et : ft E1 with
            | no =>
              rw [et] at est
              cases est
            | exc c =>
              rw [et] at est
              cases est
            | ok b =>
              rw [et] at est
              intro H4 s4
              have A4 : Acc (glo X) H F T src D a H4 acc fpa := ⟨s4 _ _ (s3 _ _ A.at_), (A.rep.same s3).same s4, A.nd, A.src, fun z => ⟨(A.deep z).1, fun c hc => ⟨((A.deep z).2 c hc).1, (((A.deep z).2 c hc).2.same s3).same s4⟩⟩⟩
              have g4 : Gd H4 := it.keep [] _ _ g2 (Kf.same (s3.trans s4)) (fun _ _ => by simp)
              cases b with
              | false =>
                simp only [bind_ok, Bool.false_eq_true, if_false] at est
                injection est with est
                subst est
                rw [if_neg Bool.false_ne_true]
                refine ⟨g4, s2.trans (s3.trans s4), a, acc, fpa, ?_, A4⟩
                rw [enx]
                simp
              | true =>
                simp only [bind_ok, if_true] at est
                rw [if_pos rfl]
                refine ⟨E1, F1, B.rep.same s4, ?_⟩
                cases er : fe E1 with
                | no =>
                  rw [er] at est
                  cases est
                | exc c =>
                  rw [er] at est
                  cases est
                | ok r =>
                  rw [er] at est
                  have est : Res.ok (some r) = Res.ok oo := est
                  injection est with est
                  subst est
                  intro y H5 fy s5 gy
                  have at5 : H5 D = some (.lst acc) := s5 _ _ A4.at_
                  have w5 : Wr H5 D := ⟨_, at5, rfl⟩
                  have s45 : Same H2 H5 := s3.trans (s4.trans s5)
                  have la : a.length ≤ 1000000 := by
                    obtain ⟨a', ha', hl'⟩ := compGo_take e1 i
                    rw [ea] at ha'
                    injection ha' with ha'
                    subst ha'
                    omega
                  have lacc : acc.length = a.length := by
                    have := A.rep.len
                    rw [List.length_map] at this
                    exact this
                  have nfy : D ∉ fy := by
                    intro z
                    rcases gy.prv.src D z with q | ⟨j, _, q⟩
                    · rw [A4.at_] at q
                      cases q
                    · rcases hF1 j D q with ⟨_, q⟩ | ⟨_, q⟩
                      · exact nfp (hf D q)
                      · exact nF j q
                  refine ⟨acc, at5, sizeLine_lt (by omega), it.keep [D] _ _ (it.keep [] _ _ g4 (Kf.same s5) (fun _ _ => by simp)) (Kf.upd w5) (fun c hc z => nfp (by
                    have : c = D := by simpa using z
                    rw [← this]
                    exact hc)), fun c o' hc => ?_, a ++ [r], acc ++ [y], fpa ++ fy, by rw [enx]; rfl, upd_same, ?_, fun z => ?_, fun c hc => ?_, fun z => ?_⟩
                  · rw [upd_ne (ne_of_none hc hD)]
                    exact s45 _ _ (s2 _ _ hc)
                  · rw [List.map_append]
                    have q1 := RepL.kp (Kp.upd (o := .lst (acc ++ [y])) w5) _ _ _ (A4.rep.same s5) fun c hc z => A.nd (by
                      have : c = D := by simpa using z
                      rw [← this]
                      exact hc)
                    have q2 := Rep.kp (Kp.upd (o := .lst (acc ++ [y])) w5) _ _ _ gy.rep fun c hc z => nfy (by
                      have : c = D := by simpa using z
                      rw [← this]
                      exact hc)
                    exact q1.app (RepL.one q2)
                  · rcases List.mem_append.mp z with q | q
                    · exact A.nd q
                    · exact nfy q
                  · have asrc : allSrc (a ++ [r]) = allSrc a ++ r.src := by
                      unfold allSrc
                      simp
                    rw [asrc, List.filter_append]
                    rcases List.mem_append.mp hc with q | q
                    · rcases A.src c q with w | ⟨j, hj, w⟩
                      · exact .inl w
                      · refine .inr ⟨j, ?_, w⟩
                        rcases List.mem_append.mp hj with u | u
                        · exact List.mem_append.mpr (.inl (List.mem_append.mpr (.inl u)))
                        · exact List.mem_append.mpr (.inr u)
                    · rcases gy.prv.src c q with w | ⟨j, hj, w⟩
                      · exact .inl ((s03.trans s4).free w)
                      · rcases hF1 j c w with ⟨_, w⟩ | ⟨nj, w⟩
                        · rcases it.src c (hf c w) with v | ⟨l, hl', v⟩
                          · exact .inl v
                          · exact .inr ⟨l, by simp [hl'], v⟩
                        · exact .inr ⟨j, by simp [hj, nj], w⟩
                  · have z1 : a.all isDeep = true ∧ isDeep r = true := by simpa using z
                    obtain ⟨n1, w1⟩ := A.deep z1.1
                    have em : r.mv = some [] := by
                      have := z1.2
                      unfold isDeep at this
                      split at this
                      · assumption
                      · cases this
                    obtain ⟨fr, p1, n2, w2⟩ := gy.prv.mv [] em
                    have p1 : fy.Perm fr := by simpa using p1
                    refine ⟨List.nodup_append.mpr ⟨n1, p1.symm.nodup_iff.mp n2, fun c hc c' hc' e => ?_⟩, fun c hc => ?_⟩
                    · subst e
                      have t1 := RepL.trk _ _ _ A4.rep c hc
                      exact t1 (w2 c (p1.mem_iff.mp hc')).1
                    · have cD : c ≠ D := fun e => by
                        subst e
                        rcases List.mem_append.mp hc with q | q
                        · exact A.nd q
                        · exact nfy q
                      have wup : Wr H5 c → Wr (upd H5 D (.lst (acc ++ [y]))) c := fun ⟨o', e', w'⟩ => ⟨o', by rw [upd_ne cD]; exact e', w'⟩
                      rcases List.mem_append.mp hc with q | q
                      · exact ⟨(w1 c q).1, wup ((w1 c q).2.same s45)⟩
                      · have u := w2 c (p1.mem_iff.mp q)
                        exact ⟨(s03.trans s4).free u.1, wup u.2⟩
        · rintro H2 ⟨g2, s2, a, acc, fpa, ea, A⟩
          rw [List.take_length, e1] at ea
          injection ea with ea
          subst ea
          refine o (.ref D) H2 (D :: fpa) (s1.trans s2) ⟨?_, ?_, fun _ => ⟨D, fpa, rfl, hD0, ⟨_, A.at_, rfl⟩, A.nd⟩, fun m em => ?_⟩
          · show Rep (glo X) H2 (.lst (rs.map (·.d))) (.ref D) (D :: fpa)
            simp only [Rep]
            exact ⟨D, acc, fpa, rfl, A.at_, A.rep, rfl⟩
          · intro c hc
            rcases List.mem_cons.mp hc with q | q
            · rw [q]
              exact .inl hD0
            · exact A.src c q
          · have em : (if rs.all isDeep then some [] else none) = some m := em
            by_cases hz : rs.all isDeep = true
            · rw [if_pos hz] at em
              injection em with em
              subst em
              obtain ⟨n1, w1⟩ := A.deep hz
              refine ⟨D :: fpa, by simp, List.nodup_cons.mpr ⟨A.nd, n1⟩, fun c hc => ?_⟩
              rcases List.mem_cons.mp hc with q | q
              · rw [q]
                exact ⟨hD0, ⟨_, A.at_, rfl⟩⟩
              · exact w1 c q
            · rw [if_neg hz] at em
              cases em
      · rw [if_neg hl] at o
        exact o.elim
/-- [elt for target in iter if test] -/
structure CompOk (X : Cx) (W : WX) (T : Tgt) (own : List (Str × Nat)) (elt tg iter : Expr) (ifs : List Expr) (scope : Scope) (fi : Sto → Res (List Dat × List Nat)) (ft : Sto → Res Bool) (fe : Sto → Res Rs) : Prop where
  sub : ∀ i ∈ slotsT T, i ∈ own.map (·.2)
  pi : PI X tg iter (tEi X W fi)
  blk : BlkOk X.N X.env.scope scope own
  tgt : ∀ (s : Shared) (H : Hp) (C : Addr) (cl : List (Str × Addr)) (fp : List Addr), PG (X.blk s H scope (compEnvC scope cl C X.env) fp) tg (gT X.K T)
  tst : ∀ (s : Shared) (H : Hp) (C : Addr) (cl : List (Str × Addr)) (fp : List Addr), PTs (X.blk s H scope (compEnvC scope cl C X.env) fp) ifs (tEt X Wn ft)
  elt : ∀ (s : Shared) (H : Hp) (C : Addr) (cl : List (Str × Addr)) (fp : List Addr), PE (X.blk s H scope (compEnvC scope cl C X.env) fp) elt (tEv X Wn fe)
theorem ev_comp (C : XOk k X) {T : Tgt} {own : List (Str × Nat)} {elt tg iter : Expr} {ifs : List Expr} {scope : Scope} {pos : Pos} {fi : Sto → Res (List Dat × List Nat)} {ft : Sto → Res Bool} {fe : Sto → Res Rs} (c : CompOk X W T own elt tg iter ifs scope fi ft fe)
    (hs : ∀ x, foldedSetIterable iter X.env x = pure x := by intro _; rfl) : Ev X W (.ListComp elt [⟨tg, iter, ifs, 0⟩] scope pos) (fComp T (own.map (·.2)) fi ft fe) :=
  ⟨weakE (pe_lc C.calm C.nd c.pi c.blk c.tgt c.tst c.elt hs) fun σ H Q h => comp_lc c.sub h⟩
def tTrue : Sto → Res Bool := fun _ => .ok true
theorem pts_true {X' : Cx} : PTs X' [] (tEt X Wn tTrue) := ⟨fun pins s σ H Q I ⟨E, F, re, o⟩ => (pts_nil (X := X')).run pins s σ H Q I (o H (Same.refl H))⟩
end
end PV

/-! PV10: statements over pure data: who holds what may be written. -/
namespace PV
open PySem PySem.Spec L2

/-- what a block is run within: the heap at the def's entry, what is locked, what must stand (iterators' lists), what was handed in -/
structure Fx where
  H0 : Hp
  Lk : List Addr
  T : List ((Hp → Prop) × List Addr)
  P : Addr → Prop
def kd (E : Sto) (i : Nat) : Kd := match slot E i with
  | some (_, k) => k
  | none => .shr
def owK (k : Kd) (fp : List Addr) : List Addr := match k with
  | .deep => fp
  | .root => fp.take 1
  | .shr => []
def Ow (E : Sto) (F : Fp) (i : Nat) : List Addr := owK (kd E i) (F i)
theorem owK_sub {k : Kd} {fp : List Addr} : ∀ a ∈ owK k fp, a ∈ fp := by
  intro a ha
  cases k with
  | deep => exact ha
  | root => exact List.mem_of_mem_take ha
  | shr => cases ha
structure Prot (t : (Hp → Prop) × List Addr) : Prop where
  keep : ∀ W H H', t.1 H → Kf W H H' → (∀ a ∈ t.2, a ∉ W) → t.1 H'
  trk : ∀ H, t.1 H → ∀ a ∈ t.2, H a ≠ none
  unl : ∀ H H' d od kvs, t.1 H → H d = some (.dK kvs) → t.1 H' → H' d = some (.frz od (.dK kvs)) → t.1 (upd H' d (.dK kvs))
def Frm (B : Fx) (H : Hp) : Prop := ∀ b o, B.H0 b = some o → H b = some o ∨ (b ∈ B.Lk ∧ ∃ ob, H b = some (.frz ob o))
structure R (G : Glo) (B : Fx) (E : Sto) (σ : L2.St) (H : Hp) (F : Fp) : Prop where
  rep : RepE G H E σ F
  own : ∀ i, ∀ a ∈ Ow E F i, Wr H a ∧ B.H0 a = none
  nod : ∀ i, kd E i = .deep → (F i).Nodup
  rot : ∀ i, kd E i = .root → ∃ a f, F i = a :: f ∧ a ∉ f
  sep : ∀ i j, i ≠ j → ∀ a ∈ Ow E F i, a ∉ F j
  pro : ∀ t ∈ B.T, Prot t
  tmp : ∀ t ∈ B.T, t.1 H ∧ ∀ i, ∀ a ∈ Ow E F i, a ∉ t.2
  prv : ∀ i, ∀ a ∈ F i, B.H0 a = none ∨ B.P a
  frm : Frm B H
theorem Frm.same {B : Fx} {H H' : Hp} (f : Frm B H) (s : Same H H') : Frm B H' := fun b o e => (f b o e).imp (s _ _) fun ⟨h, ob, q⟩ => ⟨h, ob, s _ _ q⟩
theorem Frm.new {B : Fx} {H : Hp} (f : Frm B H) {a : Addr} (h : H a = none) : B.H0 a = none := by
  cases e : B.H0 a with
  | none => rfl
  | some o =>
    rcases f a o e with q | ⟨_, ob, q⟩
    · rw [h] at q
      cases q
    · rw [h] at q
      cases q
theorem R.same {G : Glo} {B : Fx} {E : Sto} {σ : L2.St} {H H' : Hp} {F : Fp} (r : R G B E σ H F) (s : Same H H') : R G B E σ H' F :=
  ⟨r.rep.same s, fun i a ha => ⟨(r.own i a ha).1.same s, (r.own i a ha).2⟩, r.nod, r.rot, r.sep, r.pro, fun t ht => ⟨(r.pro t ht).keep [] H H' (r.tmp t ht).1 (Kf.same s) (fun _ _ => by simp), (r.tmp t ht).2⟩, r.prv, r.frm.same s⟩
/-- a value in hand, apart from the slots -/
structure Hand (G : Glo) (B : Fx) (E : Sto) (F : Fp) (H : Hp) (d : Dat) (k : Kd) (v : V) (fp : List Addr) : Prop where
  rep : Rep G H d v fp
  own : ∀ a ∈ owK k fp, Wr H a ∧ B.H0 a = none
  nod : k = .deep → fp.Nodup
  rot : k = .root → ∃ a f, fp = a :: f ∧ a ∉ f
  sp1 : ∀ a ∈ owK k fp, ∀ j, a ∉ F j
  sp2 : ∀ j, ∀ a ∈ Ow E F j, a ∉ fp
  tmp : ∀ t ∈ B.T, ∀ a ∈ owK k fp, a ∉ t.2
  prv : ∀ a ∈ fp, B.H0 a = none ∨ B.P a
theorem kd_set {E : Sto} {i j : Nat} {d : Dat} {k : Kd} (hi : i < E.length) : kd (E.set i (some (d, k))) j = if j = i then k else kd E j := by
  unfold kd
  rw [slot_set hi]
  by_cases h : j = i
  · simp [h]
  · simp [h]
/-- laid into a slot -/
theorem R.put {G : Glo} {B : Fx} {E : Sto} {σ : L2.St} {H : Hp} {F : Fp} {i : Nat} {d : Dat} {k : Kd} {v : V} {fp : List Addr} (r : R G B E σ H F) (h : Hand G B E F H d k v fp) (hi : i < E.length) :
    R G B (E.set i (some (d, k))) (σ.set i (some v)) H (fun j => if j = i then fp else F j) := by
  have ow : ∀ j, Ow (E.set i (some (d, k))) (fun j => if j = i then fp else F j) j = if j = i then owK k fp else Ow E F j := by
    intro j
    unfold Ow
    rw [kd_set hi]
    by_cases hj : j = i
    · simp [hj]
    · simp [hj]
  refine ⟨r.rep.set hi h.rep, fun j a ha => ?_, fun j e => ?_, fun j e => ?_, fun j l n a ha => ?_, r.pro, fun t ht => ⟨(r.tmp t ht).1, fun j a ha => ?_⟩, fun j a ha => ?_, r.frm⟩
  · rw [ow] at ha
    by_cases hj : j = i
    · rw [if_pos hj] at ha
      exact h.own a ha
    · rw [if_neg hj] at ha
      exact r.own j a ha
  · rw [kd_set hi] at e
    by_cases hj : j = i
    · rw [if_pos hj] at e
      simp only [hj, if_true]
      exact h.nod e
    · rw [if_neg hj] at e
      simp only [hj, if_false]
      exact r.nod j e
  · rw [kd_set hi] at e
    by_cases hj : j = i
    · rw [if_pos hj] at e
      simp only [hj, if_true]
      exact h.rot e
    · rw [if_neg hj] at e
      simp only [hj, if_false]
      exact r.rot j e
  · rw [ow] at ha
    by_cases hj : j = i
    · rw [if_pos hj] at ha
      have hl : l ≠ i := fun e => n (hj.trans e.symm)
      simp only [hl, if_false]
      exact h.sp1 a ha l
    · rw [if_neg hj] at ha
      by_cases hl : l = i
      · simp only [hl, if_true]
        exact h.sp2 j a ha
      · simp only [hl, if_false]
        exact r.sep j l n a ha
  · rw [ow] at ha
    by_cases hj : j = i
    · rw [if_pos hj] at ha
      exact h.tmp t ht a ha
    · rw [if_neg hj] at ha
      exact (r.tmp t ht).2 j a ha
  · by_cases hj : j = i
    · simp only [hj, if_true] at ha
      exact h.prv a ha
    · simp only [hj, if_false] at ha
      exact r.prv j a ha
/-- slots forgotten -/
theorem RepE.kill {G : Glo} {H : Hp} {E : Sto} {σ : L2.St} {F : Fp} (r : RepE G H E σ F) : ∀ m : List Nat, RepE G H (wipeE E m) σ (fun j => if j ∈ m then [] else F j)
  | [] => by
    have : (fun j => if j ∈ ([] : List Nat) then ([] : List Addr) else F j) = F := by
      funext j
      simp
    rw [this]
    exact r
  | i :: m => by
    have ih := r.kill m
    refine ⟨by rw [wipeE, List.length_set, ih.len], fun j d k e => ?_, fun j e => ?_⟩
    · rw [wipeE, slot_set_none] at e
      by_cases hj : j = i
      · rw [if_pos hj] at e
        cases e
      · rw [if_neg hj] at e
        obtain ⟨v, q1, q2⟩ := ih.rep j d k e
        refine ⟨v, q1, ?_⟩
        by_cases hm : j ∈ m
        · simpa [hj, hm] using q2
        · simpa [hj, hm] using q2
    · rw [wipeE, slot_set_none] at e
      by_cases hj : j = i
      · simp [hj]
      · rw [if_neg hj] at e
        have := ih.emp j e
        by_cases hm : j ∈ m
        · simp [hm]
        · simpa [hj, hm] using this
theorem slot_wipe {E : Sto} {j : Nat} : ∀ {m : List Nat}, slot (wipeE E m) j = if j ∈ m then none else slot E j
  | [] => by simp [wipeE]
  | i :: m => by
    rw [wipeE, slot_set_none, slot_wipe]
    by_cases h : j = i
    · simp [h]
    · simp [h]
theorem kd_wipe {E : Sto} {m : List Nat} {j : Nat} : kd (wipeE E m) j = if j ∈ m then .shr else kd E j := by
  unfold kd
  rw [slot_wipe]
  by_cases h : j ∈ m <;> simp [h]
theorem R.kill {G : Glo} {B : Fx} {E : Sto} {σ : L2.St} {H : Hp} {F : Fp} (r : R G B E σ H F) (m : List Nat) : R G B (wipeE E m) σ H (fun j => if j ∈ m then [] else F j) := by
  have ow : ∀ j, Ow (wipeE E m) (fun j => if j ∈ m then [] else F j) j = if j ∈ m then [] else Ow E F j := by
    intro j
    unfold Ow
    rw [kd_wipe]
    by_cases h : j ∈ m
    · simp [h, owK]
    · simp [h]
  refine ⟨r.rep.kill m, fun j a ha => ?_, fun j e => ?_, fun j e => ?_, fun j l n a ha => ?_, r.pro, fun t ht => ⟨(r.tmp t ht).1, fun j a ha => ?_⟩, fun j a ha => ?_, r.frm⟩
  · rw [ow] at ha
    by_cases h : j ∈ m
    · simp [h] at ha
    · rw [if_neg h] at ha
      exact r.own j a ha
  · rw [kd_wipe] at e
    by_cases h : j ∈ m
    · simp [h]
    · rw [if_neg h] at e
      simp only [h, if_false]
      exact r.nod j e
  · rw [kd_wipe] at e
    by_cases h : j ∈ m
    · rw [if_pos h] at e
      cases e
    · rw [if_neg h] at e
      simp only [h, if_false]
      exact r.rot j e
  · rw [ow] at ha
    by_cases h : j ∈ m
    · simp [h] at ha
    · rw [if_neg h] at ha
      by_cases hl : l ∈ m
      · simp [hl]
      · simp only [hl, if_false]
        exact r.sep j l n a ha
  · rw [ow] at ha
    by_cases h : j ∈ m
    · simp [h] at ha
    · rw [if_neg h] at ha
      exact (r.tmp t ht).2 j a ha
  · by_cases h : j ∈ m
    · simp [h] at ha
    · simp only [h, if_false] at ha
      exact r.prv j a ha
/-- slots that others may know, too -/
def downE (E : Sto) : List Nat → Sto
  | [] => E
  | j :: js => match slot (downE E js) j with
    | some (d, _) => (downE E js).set j (some (d, .shr))
    | none => downE E js
theorem slot_lt {E : Sto} {i : Nat} {x : Dat × Kd} (h : slot E i = some x) : i < E.length := (List.getElem?_eq_some_iff.mp (slot_some h)).1
theorem downE_at {E : Sto} : ∀ {m : List Nat} {j : Nat}, slot (downE E m) j = if j ∈ m then (slot E j).map (fun x => (x.1, Kd.shr)) else slot E j
  | [], j => by simp [downE]
  | i :: m, j => by
    unfold downE
    cases e : slot (downE E m) i with
    | none =>
      rw [downE_at] at e ⊢
      by_cases h : j = i
      · subst h
        by_cases hm : j ∈ m
        · simp [hm]
        · simp only [hm, if_false] at e
          simp [hm, e]
      · by_cases hm : j ∈ m <;> simp [h, hm]
    | some x =>
      obtain ⟨d, k⟩ := x
      simp only
      rw [slot_set (slot_lt e)]
      by_cases h : j = i
      · subst h
        rw [if_pos rfl]
        rw [downE_at] at e
        by_cases hm : j ∈ m
        · simp only [hm, if_true] at e
          cases es : slot E j with
          | none =>
            rw [es] at e
            cases e
          | some y =>
            rw [es] at e
            simp at e
            simp [e.1]
        · simp only [hm, if_false] at e
          simp [e]
      · rw [if_neg h, downE_at]
        by_cases hm : j ∈ m <;> simp [h, hm]
theorem downE_len {E : Sto} : ∀ {m : List Nat}, (downE E m).length = E.length
  | [] => rfl
  | i :: m => by
    unfold downE
    split
    · rw [List.length_set, downE_len]
    · exact downE_len
theorem kd_down {E : Sto} {m : List Nat} {j : Nat} : kd (downE E m) j = if j ∈ m then .shr else kd E j := by
  unfold kd
  rw [downE_at]
  by_cases h : j ∈ m
  · simp only [h, if_true]
    cases slot E j <;> rfl
  · simp [h]
theorem R.down {G : Glo} {B : Fx} {E : Sto} {σ : L2.St} {H : Hp} {F : Fp} (r : R G B E σ H F) (m : List Nat) : R G B (downE E m) σ H F := by
  have ow : ∀ j, ∀ a ∈ Ow (downE E m) F j, j ∉ m ∧ a ∈ Ow E F j := by
    intro j a ha
    unfold Ow at ha ⊢
    rw [kd_down] at ha
    by_cases h : j ∈ m
    · simp [h, owK] at ha
    · rw [if_neg h] at ha
      exact ⟨h, ha⟩
  refine ⟨⟨by rw [downE_len, r.rep.len], fun j d k e => ?_, fun j e => ?_⟩, fun j a ha => r.own j a (ow j a ha).2, fun j e => ?_, fun j e => ?_, fun j l n a ha => r.sep j l n a (ow j a ha).2, r.pro, fun t ht => ⟨(r.tmp t ht).1, fun j a ha => (r.tmp t ht).2 j a (ow j a ha).2⟩, r.prv, r.frm⟩
  · rw [downE_at] at e
    by_cases h : j ∈ m
    · rw [if_pos h] at e
      cases es : slot E j with
      | none =>
        rw [es] at e
        cases e
      | some y =>
        obtain ⟨d', k'⟩ := y
        rw [es] at e
        simp at e
        obtain ⟨v, q1, q2⟩ := r.rep.rep j d' k' es
        rw [← e.1]
        exact ⟨v, q1, q2⟩
    · rw [if_neg h] at e
      exact r.rep.rep j d k e
  · rw [downE_at] at e
    by_cases h : j ∈ m
    · rw [if_pos h] at e
      cases es : slot E j with
      | none => exact r.rep.emp j es
      | some y =>
        rw [es] at e
        cases e
    · rw [if_neg h] at e
      exact r.rep.emp j e
  · rw [kd_down] at e
    by_cases h : j ∈ m
    · rw [if_pos h] at e
      cases e
    · rw [if_neg h] at e
      exact r.nod j e
  · rw [kd_down] at e
    by_cases h : j ∈ m
    · rw [if_pos h] at e
      cases e
    · rw [if_neg h] at e
      exact r.rot j e
/-- a value taken: what it holds of slots goes with it, or is known to others from now on -/
def take (keep : Bool) (r : Rs) (E : Sto) : Sto × Kd := match r.mv with
  | some m => if (m == [] || !keep) && m.all (fun j => kd E j == .deep) && decide m.Nodup then (wipeE E m, .deep) else (downE E r.src, if r.rt then .root else .shr)
  | none => (downE E r.src, if r.rt then .root else .shr)
theorem flat_nodup {F : Fp} : ∀ {m : List Nat}, m.Nodup → (∀ i ∈ m, (F i).Nodup) → (∀ i ∈ m, ∀ j ∈ m, i ≠ j → ∀ a ∈ F i, a ∉ F j) → (m.map F).flatten.Nodup
  | [], _, _, _ => .nil
  | i :: m, n, h1, h2 => by
    obtain ⟨n1, n2⟩ := List.nodup_cons.mp n
    rw [List.map_cons, List.flatten_cons]
    refine List.nodup_append.mpr ⟨h1 i (by simp), flat_nodup n2 (fun j hj => h1 j (by simp [hj])) (fun j hj l hl => h2 j (by simp [hj]) l (by simp [hl])), fun a ha b hb e => ?_⟩
    subst e
    obtain ⟨l, hl, hal⟩ := List.mem_flatten.mp hb
    obtain ⟨j, hj, e⟩ := List.mem_map.mp hl
    subst e
    exact h2 i (by simp) j (by simp [hj]) (fun e => n1 (by rw [e]; exact hj)) a ha hal
theorem R.take {G : Glo} {B : Fx} {E : Sto} {σ : L2.St} {H H' : Hp} {F : Fp} {r : Rs} {v : V} {fp : List Addr} (keep : Bool) (x : R G B E σ H F) (s : Same H H') (g : Gv G H F r v H' fp) :
    ∃ F1, R G B (take keep r E).1 σ H' F1 ∧ Hand G B (take keep r E).1 F1 H' r.d (take keep r E).2 v fp := by
  have tr : ∀ t ∈ B.T, ∀ a ∈ t.2, H a ≠ none := fun t ht a ha => (x.pro t ht).trk H (x.tmp t ht).1 a ha
  have pr : ∀ a ∈ fp, B.H0 a = none ∨ B.P a := fun a ha => by
    rcases g.prv.src a ha with q | ⟨i, _, q⟩
    · exact .inl (x.frm.new q)
    · exact x.prv i a q
  have dn : ∃ F1, R G B (downE E r.src) σ H' F1 ∧ Hand G B (downE E r.src) F1 H' r.d (if r.rt then .root else .shr) v fp := by
    have key : ∀ a ∈ owK (if r.rt then Kd.root else Kd.shr) fp, H a = none ∧ Wr H' a := by
      intro a ha
      by_cases h : r.rt = true
      · rw [if_pos h] at ha
        obtain ⟨b, f, e, q1, q2, q3⟩ := g.prv.rt h
        rw [e] at ha
        have : a = b := by simpa [owK] using ha
        rw [this]
        exact ⟨q1, q2⟩
      · rw [if_neg h] at ha
        cases ha
    refine ⟨F, (x.same s).down r.src, g.rep, fun a ha => ⟨(key a ha).2, x.frm.new (key a ha).1⟩, fun e => ?_, fun e => ?_, fun a ha j z => x.rep.trk j a z (key a ha).1, fun j a ha z => ?_, fun t ht a ha z => tr t ht a z (key a ha).1, pr⟩
    · by_cases h : r.rt = true <;> simp [h] at e
    · by_cases h : r.rt = true
      · obtain ⟨b, f, e, q1, q2, q3⟩ := g.prv.rt h
        exact ⟨b, f, e, q3⟩
      · simp [h] at e
    · unfold Ow at ha
      rw [kd_down] at ha
      by_cases h : j ∈ r.src
      · simp [h, owK] at ha
      · rw [if_neg h] at ha
        rcases g.prv.src a z with q | ⟨i, hi, q⟩
        · exact x.rep.trk j a (owK_sub a ha) q
        · exact x.sep j i (fun e => h (by rw [e]; exact hi)) a ha q
  unfold PV.take
  cases em : r.mv with
  | none => exact dn
  | some m =>
    simp only
    by_cases hc : ((m == [] || !keep) && m.all (fun j => kd E j == .deep) && decide m.Nodup) = true
    · rw [if_pos hc]
      simp only [Bool.and_eq_true, decide_eq_true_eq] at hc
      obtain ⟨⟨_, hd⟩, hn⟩ := hc
      have hdeep : ∀ j ∈ m, kd E j = .deep := fun j hj => by
        have := List.all_eq_true.mp hd j hj
        simpa using this
      have hOw : ∀ j ∈ m, Ow E F j = F j := fun j hj => by
        unfold Ow
        rw [hdeep j hj]
        rfl
      obtain ⟨fr, p, nf, wf⟩ := g.prv.mv m em
      have mem : ∀ a ∈ fp, (a ∈ fr) ∨ ∃ i ∈ m, a ∈ F i := fun a ha => by
        rcases List.mem_append.mp (p.mem_iff.mp ha) with q | q
        · exact .inl q
        · obtain ⟨l, hl, hal⟩ := List.mem_flatten.mp q
          obtain ⟨i, hi, e⟩ := List.mem_map.mp hl
          subst e
          exact .inr ⟨i, hi, hal⟩
      refine ⟨_, (x.same s).kill m, g.rep, fun a ha => ?_, fun _ => ?_, (fun e => by cases e), fun a ha j z => ?_, fun j a ha z => ?_, fun t ht a ha z => ?_, pr⟩
      · rcases mem a ha with q | ⟨i, hi, q⟩
        · exact ⟨(wf a q).2, x.frm.new (wf a q).1⟩
        · have := x.own i a (by rw [hOw i hi]; exact q)
          exact ⟨this.1.same s, this.2⟩
      · refine p.nodup_iff.mpr (List.nodup_append.mpr ⟨nf, flat_nodup hn (fun i hi => x.nod i (hdeep i hi)) (fun i hi j hj n a ha => x.sep i j n a (by rw [hOw i hi]; exact ha)), fun a ha b hb e => ?_⟩)
        subst e
        obtain ⟨l, hl, hal⟩ := List.mem_flatten.mp hb
        obtain ⟨i, hi, e⟩ := List.mem_map.mp hl
        subst e
        exact x.rep.trk i a hal (wf a ha).1
      · by_cases hj : j ∈ m
        · simp [hj] at z
        · simp only [hj, if_false] at z
          rcases mem a ha with q | ⟨i, hi, q⟩
          · exact x.rep.trk j a z (wf a q).1
          · exact x.sep i j (fun e => hj (by rw [← e]; exact hi)) a (by rw [hOw i hi]; exact q) z
      · unfold Ow at ha
        rw [kd_wipe] at ha
        by_cases hj : j ∈ m
        · simp [hj, owK] at ha
        · rw [if_neg hj] at ha
          simp only [hj, if_false] at ha
          rcases mem a z with q | ⟨i, hi, q⟩
          · exact x.rep.trk j a (owK_sub a ha) (wf a q).1
          · exact x.sep j i (fun e => hj (by rw [e]; exact hi)) a ha q
      · rcases mem a ha with q | ⟨i, hi, q⟩
        · exact tr t ht a z (wf a q).1
        · exact (x.tmp t ht).2 i a (by rw [hOw i hi]; exact q) z
    · rw [if_neg hc]
      exact dn
end PV

/-! PV11: statements over pure data: the judgement, blocks, stores, loops, calls. -/
namespace PV
open PySem PySem.Spec L2
inductive Fl where
  | nx (E : Sto) | rt (d : Dat) (deep : Bool) | bk (E : Sto) | ct (E : Sto)
def RPost (G : Glo) (B : Fx) (d : Dat) (dp : Bool) (v : V) (H' : Hp) : Prop :=
  ∃ fp, Rep G H' d v fp ∧ (dp = true → fp.Nodup ∧ ∀ a ∈ fp, Wr H' a ∧ B.H0 a = none) ∧ (∀ a ∈ fp, B.H0 a = none ∨ B.P a) ∧ Frm B H' ∧ ∀ t ∈ B.T, t.1 H'
def OutS (X : Cx) (W : WX) (B : Fx) (D : Ends) (o : Res Fl) : Prop := match o with
  | .ok (.nx E') => ∀ σ' H' F', R (glo X) B E' σ' H' F' → D.nx σ' H'
  | .ok (.rt d dp) => ∀ v H', RPost (glo X) B d dp v H' → D.rt v H'
  | .ok (.bk E') => ∀ σ' H' F', R (glo X) B E' σ' H' F' → D.bk σ' H'
  | .ok (.ct E') => ∀ σ' H' F', R (glo X) B E' σ' H' F' → D.ct σ' H'
  | .exc c => ∀ C σ' H', X.mg (mkS c) = some (.ref C) → Frm B H' → W (.ref C) none σ' H'
  | .no => False
def tEs (X : Cx) (W : WX) (g : Sto → Res Fl) : TS := fun D σ H => ∃ B E F, R (glo X) B E σ H F ∧ OutS X W B D (g E)
structure Es (X : Cx) (W : WX) (st : Stmt) (g : Sto → Res Fl) : Prop where
  ps : PS X st (tEs X W g)
structure Ess (X : Cx) (W : WX) (st : List Stmt) (g : Sto → Res Fl) : Prop where
  pss : PSs X st (tEs X W g)
section
variable {X : Cx} {W : WX} {k : Nat}
def sNil : Sto → Res Fl := fun E => .ok (.nx E)
def sSeq (g h : Sto → Res Fl) : Sto → Res Fl := fun E => (g E).bind fun fl => match fl with
  | .nx E' => h E'
  | fl => .ok fl
theorem ess_nil : Ess X W [] sNil := ⟨weakSs pss_nil fun D σ H ⟨B, E, F, r, o⟩ => o σ H F r⟩
theorem ess_cons {st : Stmt} {rest : List Stmt} {g h : Sto → Res Fl} (a : Es X W st g) (b : Ess X W rest h) : Ess X W (st :: rest) (sSeq g h) := by
  refine ⟨weakSs (pss_cons a.ps b.pss) fun D σ H ⟨B, E, F, r, o⟩ => ⟨B, E, F, r, ?_⟩⟩
  unfold sSeq at o
  cases e : g E with
  | no =>
    rw [e] at o
    exact o
  | exc c =>
    rw [e] at o
    exact o
  | ok fl =>
    rw [e] at o
    cases fl with
    | nx E' => exact fun σ' H' F' r' => ⟨B, E', F', r', o⟩
    | rt d dp => exact o
    | bk E' => exact o
    | ct E' => exact o
theorem ess_one {st : Stmt} {g : Sto → Res Fl} (a : Es X W st g) : Ess X W [st] g := ⟨pss_one a.ps⟩
/-- an expression first -/
theorem seqS {f : Sto → Res Rs} {B : Fx} {E : Sto} {F : Fp} {σ : L2.St} {H : Hp} {kk : Rs → Res Fl} {D : Ends} {Q' : VK} (r : R (glo X) B E σ H F) (o : OutS X W B D ((f E).bind kk))
    (h : ∀ rs v H1 fp, f E = .ok rs → Same H H1 → Gv (glo X) H F rs v H1 fp → OutS X W B D (kk rs) → Q' v H1) : tEv X W f σ H Q' := by
  refine ⟨E, F, r.rep, ?_⟩
  cases e : f E with
  | no =>
    rw [e] at o
    exact o
  | exc c =>
    rw [e] at o
    exact fun C H' m s => o C σ H' m (r.frm.same s)
  | ok rs =>
    intro v H1 fp s1 g
    rw [e] at o
    exact h rs v H1 fp e s1 g o
theorem seqSB {f : Sto → Res Bool} {B : Fx} {E : Sto} {F : Fp} {σ : L2.St} {H : Hp} {kk : Bool → Res Fl} {D : Ends} {Q' : Bool → Hp → Prop} (r : R (glo X) B E σ H F) (o : OutS X W B D ((f E).bind kk))
    (h : ∀ b H1, f E = .ok b → Same H H1 → OutS X W B D (kk b) → Q' b H1) : tEt X W f σ H Q' := by
  refine ⟨E, F, r.rep, ?_⟩
  cases e : f E with
  | no =>
    rw [e] at o
    exact o
  | exc c =>
    rw [e] at o
    exact fun C H' m s => o C σ H' m (r.frm.same s)
  | ok b =>
    intro H1 s1
    rw [e] at o
    exact h b H1 e s1 o
def sPass : Sto → Res Fl := fun E => .ok (.nx E)
def sBrk : Sto → Res Fl := fun E => .ok (.bk E)
def sCnt : Sto → Res Fl := fun E => .ok (.ct E)
theorem es_pass {pos : Pos} : Es X W (.Pass pos) sPass := ⟨weakS ps_pass fun D σ H ⟨B, E, F, r, o⟩ => o σ H F r⟩
theorem es_break {pos : Pos} : Es X W (.Break pos) sBrk := ⟨weakS ps_break fun D σ H ⟨B, E, F, r, o⟩ => o σ H F r⟩
theorem es_continue {pos : Pos} : Es X W (.Continue pos) sCnt := ⟨weakS ps_continue fun D σ H ⟨B, E, F, r, o⟩ => o σ H F r⟩
def sDrop (f : Sto → Res Rs) : Sto → Res Fl := fun E => (f E).bind fun _ => .ok (.nx E)
theorem es_drop {e : Expr} {pos : Pos} {f : Sto → Res Rs} (he : Ev X W e f) (hs : swapsWith e none pos.line X.env = pure false := by rfl) : Es X W (.Expr e pos) (sDrop f) :=
  ⟨weakS (ps_expr he.pe hs) fun D σ H ⟨B, E, F, r, o⟩ => seqS r o fun rs v H1 fp e1 s1 g o1 => o1 σ H1 F (r.same s1)⟩
def sRet (f : Sto → Res Rs) : Sto → Res Fl := fun E => (f E).bind fun r => .ok (.rt r.d (decide ((PV.take false r E).2 = .deep)))
theorem Hand.post {G : Glo} {B : Fx} {E : Sto} {σ : L2.St} {F : Fp} {H : Hp} {d : Dat} {kd : Kd} {v : V} {fp : List Addr} (r : R G B E σ H F) (h : Hand G B E F H d kd v fp) : RPost G B d (decide (kd = .deep)) v H :=
  ⟨fp, h.rep, fun e => by
    have e := of_decide_eq_true e
    subst e
    exact ⟨h.nod rfl, fun a ha => h.own a ha⟩, h.prv, r.frm, fun t ht => (r.tmp t ht).1⟩
theorem es_ret {e : Expr} {pos : Pos} {f : Sto → Res Rs} (he : Ev X W e f) : Es X W (.Return (some e) pos) (sRet f) :=
  ⟨weakS (ps_ret he.pe) fun D σ H ⟨B, E, F, r, o⟩ => seqS r o fun rs v H1 fp e1 s1 g o1 => by
    obtain ⟨F1, r1, h1⟩ := r.take false s1 g
    exact o1 v H1 (h1.post r1)⟩
def sRetN : Sto → Res Fl := fun _ => .ok (.rt .non true)
theorem es_retN {pos : Pos} : Es X W (.Return none pos) sRetN :=
  ⟨weakS ps_retN fun D σ H ⟨B, E, F, r, o⟩ => o .non H ⟨[], mk_non, fun _ => ⟨.nil, (fun _ z => nomatch z)⟩, (fun _ z => nomatch z), r.frm, fun t ht => (r.tmp t ht).1⟩⟩
def sIf (t : Sto → Res Bool) (g h : Sto → Res Fl) : Sto → Res Fl := fun E => (t E).bind fun b => if b then g E else h E
theorem es_if {c : Expr} {a b : List Stmt} {pos : Pos} {t : Sto → Res Bool} {g h : Sto → Res Fl} (hc : Et X W c t) (ha : Ess X W a g) (hb : Ess X W b h) : Es X W (.If c a b pos) (sIf t g h) := by
  refine ⟨weakS (ps_if hc.pt ha.pss hb.pss) fun D σ H ⟨B, E, F, r, o⟩ => seqSB r o fun b H1 e1 s1 o1 => ?_⟩
  cases b with
  | true =>
    rw [if_pos rfl]
    exact ⟨B, E, F, r.same s1, o1⟩
  | false =>
    rw [if_neg Bool.false_ne_true]
    exact ⟨B, E, F, r.same s1, o1⟩
/-! ### stores -/
def sSet (keep : Bool) (i : Nat) (f : Sto → Res Rs) : Sto → Res Fl := fun E => (f E).bind fun r =>
  if i < (PV.take keep r E).1.length then .ok (.nx ((PV.take keep r E).1.set i (some (r.d, (PV.take keep r E).2)))) else .no
/-- a store's reading, however the value is made -/
structure PAsg (X : Cx) (W : WX) (st : Stmt) (i : Nat) (f : Sto → Res Rs) : Prop where
  ps : PS X st (tAsg (tEv X W f) (gName i))
theorem es_set (keep : Bool) {st : Stmt} {i : Nat} {f : Sto → Res Rs} (p : PAsg X W st i f) : Es X W st (sSet keep i f) := by
  refine ⟨weakS p.ps fun D σ H ⟨B, E, F, r, o⟩ => seqS r o fun rs v H1 fp e1 s1 g o1 => ?_⟩
  obtain ⟨F1, r1, h1⟩ := r.take keep s1 g
  by_cases hi : i < (PV.take keep rs E).1.length
  · rw [if_pos hi] at o1
    exact o1 _ H1 _ (r1.put h1 hi)
  · rw [if_neg hi] at o1
    exact o1.elim
theorem pasg {i : Nat} {x : Str} {e : Expr} {pos pos' : Pos} {f : Sto → Res Rs} (C : XOk k X) (he : Ev X W e f) (hi : X.N[i]? = some x := by rfl) (hx : Loc X.env.scope x := by first | exact Or.inl rfl | exact Or.inr rfl) (hs : swapsWith e (some (.Name x pos')) pos.line X.env = pure false := by rfl)
    (hf : X.fn x = true ∨ X.env.scope.names.lookup x = some .local := by first | exact .inl rfl | exact .inr rfl) : PAsg X W (.Assign [.Name x pos'] e pos) i f := ⟨ps_set C.nd hi hx he.pe hs hf⟩
theorem pasgC {i : Nat} {y : Str} {py : Pos} {T : Tgt} {own : List (Str × Nat)} {elt tg iter : Expr} {ifs : List Expr} {scope : Scope} {pos spos : Pos} {fi : Sto → Res (List Dat × List Nat)} {ft : Sto → Res Bool} {fe : Sto → Res Rs} (C : XOk k X) (c : CompOk X W T own elt tg iter ifs scope fi ft fe)
    (hyl : X.env.scope.names.lookup y = some .local) (hk : X.env.scope.kind = .function) (hl : (py.line == pos.line) = true) (ha : (scope.names.any fun (n, k) => n == y && (k == .local || k == .cell)) = false)
    (hy : X.N[i]? = some y := by rfl) (hs : ∀ x, foldedSetIterable iter X.env x = pure x := by intro _; rfl) :
    PAsg X W (.Assign [.Name y py] (.ListComp elt [⟨tg, iter, ifs, 0⟩] scope pos) spos) i (fComp T (own.map (·.2)) fi ft fe) := by
  refine ⟨weakS (ps_setLc C.calm C.nd hy hyl (sw_true hk hyl hl ha) c.pi c.blk c.tgt c.tst c.elt hs) fun D σ H h => ?_⟩
  exact comp_lc c.sub h
/-- a, b = (x, y): plain local names -/
def sPar (is : List Nat) (f : Sto → Res (List Rs)) : Sto → Res Fl := fun E => (f E).bind fun rs =>
  match bindK is (rs.map (·.d)) (PV.take false (rTup rs) E).2 (PV.take false (rTup rs) E).1 with
  | some E' => .ok (.nx E')
  | none => .no
where
  bindK : List Nat → List Dat → Kd → Sto → Option Sto
    | [], [], _, E => some E
    | i :: is, d :: ds, kk, E => if i < E.length ∧ i ∉ is then bindK is ds kk (E.set i (some (d, if kk = .deep then .deep else .shr))) else none
    | _, _, _, _ => none
def sets (σ : L2.St) : List Nat → List V → L2.St
  | i :: is, v :: vs => sets (σ.set i (some v)) is vs
  | _, _ => σ
/-- the parts of what is in hand, into slots one by one -/
theorem put_all {G : Glo} {B : Fx} {H : Hp} {kk : Kd} : ∀ {is : List Nat} {ds : List Dat} {vs : List V} {fp : List Addr} {E E' : Sto} {σ : L2.St} {F : Fp}, R G B E σ H F → RepL G H ds vs fp → (kk = .deep → fp.Nodup ∧ ∀ a ∈ fp, Wr H a ∧ B.H0 a = none) → (kk = .deep → ∀ a ∈ fp, ∀ j, a ∉ F j) → (kk = .deep → ∀ t ∈ B.T, ∀ a ∈ fp, a ∉ t.2) →
    (∀ j, ∀ a ∈ Ow E F j, a ∉ fp) → (∀ a ∈ fp, B.H0 a = none ∨ B.P a) → sPar.bindK is ds kk E = some E' → ∃ F', R G B E' (sets σ is vs) H F'
  | [], [], vs, fp, E, E', σ, F, r, rl, _, _, _, _, _, e => by
    simp only [sPar.bindK] at e
    cases e
    simp only [RepL] at rl
    rw [rl.1]
    exact ⟨F, r⟩
  | [], _ :: _, _, _, _, _, _, _, _, _, _, _, _, _, _, e => by simp only [sPar.bindK] at e; cases e
  | _ :: _, [], _, _, _, _, _, _, _, _, _, _, _, _, _, e => by simp only [sPar.bindK] at e; cases e
  | i :: is, d :: ds, vs, fp, E, E', σ, F, r, rl, h1, h2, h3, h4, h5, e => by
    simp only [RepL] at rl
    obtain ⟨v, vs', f, f', e1, e2, rd, rr⟩ := rl
    subst e1
    subst e2
    simp only [sPar.bindK] at e
    by_cases hi : i < E.length ∧ i ∉ is
    · rw [if_pos hi] at e
      have hd : Hand G B E F H d (if kk = .deep then .deep else .shr) v f := by
        by_cases hk : kk = .deep
        · rw [if_pos hk]
          obtain ⟨n, w⟩ := h1 hk
          exact ⟨rd, fun a ha => w a (by simp [show a ∈ f from ha]), fun _ => (List.nodup_append.mp n).1, (fun z => by cases z), fun a ha j => h2 hk a (by simp [show a ∈ f from ha]) j, fun j a ha z => h4 j a ha (by simp [z]), fun t ht a ha => h3 hk t ht a (by simp [show a ∈ f from ha]), fun a ha => h5 a (by simp [ha])⟩
        · rw [if_neg hk]
          exact ⟨rd, (fun a ha => nomatch ha), (fun z => by cases z), (fun z => by cases z), (fun a ha => nomatch ha), fun j a ha z => h4 j a ha (by simp [z]), (fun t ht a ha => nomatch ha), fun a ha => h5 a (by simp [ha])⟩
      have r1 := r.put hd hi.1
      show ∃ F', R G B E' (sets (σ.set i (some v)) is vs') H F'
      refine put_all r1 rr (fun hk => ⟨(List.nodup_append.mp (h1 hk).1).2.1, fun a ha => (h1 hk).2 a (by simp [ha])⟩) (fun hk a ha j z => ?_) (fun hk t ht a ha => h3 hk t ht a (by simp [ha])) (fun j a ha z => ?_) (fun a ha => h5 a (by simp [ha])) e
      · by_cases hj : j = i
        · simp only [hj, if_true] at z
          exact (List.nodup_append.mp (h1 hk).1).2.2 a z a ha rfl
        · simp only [hj, if_false] at z
          exact h2 hk a (by simp [ha]) j z
      · unfold Ow at ha
        rw [kd_set hi.1] at ha
        by_cases hj : j = i
        · simp only [hj, if_true] at ha
          by_cases hk : kk = .deep
          · rw [if_pos hk] at ha
            exact (List.nodup_append.mp (h1 hk).1).2.2 a ha a z rfl
          · rw [if_neg hk] at ha
            cases ha
        · simp only [hj, if_false] at ha
          exact h4 j a ha (by simp [z])
    · rw [if_neg hi] at e
      cases e
theorem seqSA {f : Sto → Res (List Rs)} {B : Fx} {E : Sto} {F : Fp} {σ : L2.St} {H : Hp} {kk : List Rs → Res Fl} {D : Ends} {Q' : List V → Hp → Prop} (r : R (glo X) B E σ H F) (o : OutS X W B D ((f E).bind kk))
    (h : ∀ rs vs H1 fp, f E = .ok rs → Same H H1 → GvL (glo X) H F rs vs H1 fp → OutS X W B D (kk rs) → Q' vs H1) : tEa X W f σ H Q' := by
  refine ⟨E, F, r.rep, ?_⟩
  cases e : f E with
  | no =>
    rw [e] at o
    exact o
  | exc c =>
    rw [e] at o
    exact fun C H' m s => o C σ H' m (r.frm.same s)
  | ok rs =>
    intro v H1 fp s1 g
    rw [e] at o
    exact h rs v H1 fp e s1 g o
/-- several values, as a tuple of them would be taken -/
theorem R.takeL {G : Glo} {B : Fx} {E : Sto} {σ : L2.St} {H H' : Hp} {F : Fp} {rs : List Rs} {vs : List V} {fp : List Addr} {is : List Nat} {E' : Sto} (x : R G B E σ H F) (s : Same H H') (g : GvL G H F rs vs H' fp)
    (e : sPar.bindK is (rs.map (·.d)) (PV.take false (rTup rs) E).2 (PV.take false (rTup rs) E).1 = some E') : ∃ F', R G B E' (sets σ is vs) H' F' := by
  obtain ⟨p1, p2⟩ := g.prov (fun i => x.rep.trk i)
  -- a tuple of them that nobody holds: only for the account
  have gv : ∀ (p : Addr), H' p = none → Gv G H F (rTup rs) (.ref p) (upd H' p (.tup vs)) fp := fun p hp => by
    refine ⟨?_, p1, (fun z => nomatch z), fun m em => ?_⟩
    · show Rep G (upd H' p (.tup vs)) (.tup (rs.map (·.d))) (.ref p) fp
      simp only [Rep]
      exact ⟨p, vs, rfl, .inl (.inl upd_same), g.reps.same (same_new hp)⟩
    · obtain ⟨fr, q1, q2, q3⟩ := p2 m em
      exact ⟨fr, q1, q2, fun a ha => ⟨(q3 a ha).1, (q3 a ha).2.same (same_new hp)⟩⟩
  -- the account itself needs no such tuple
  have key : ∃ F1, R G B (PV.take false (rTup rs) E).1 σ H' F1 ∧ ((PV.take false (rTup rs) E).2 = .deep → fp.Nodup ∧ ∀ a ∈ fp, Wr H' a ∧ B.H0 a = none) ∧ ((PV.take false (rTup rs) E).2 = .deep → ∀ a ∈ fp, ∀ j, a ∉ F1 j) ∧ ((PV.take false (rTup rs) E).2 = .deep → ∀ t ∈ B.T, ∀ a ∈ fp, a ∉ t.2) ∧
      (∀ j, ∀ a ∈ Ow (PV.take false (rTup rs) E).1 F1 j, a ∉ fp) ∧ (∀ a ∈ fp, B.H0 a = none ∨ B.P a) := by
    have tr : ∀ t ∈ B.T, ∀ a ∈ t.2, H a ≠ none := fun t ht a ha => (x.pro t ht).trk H (x.tmp t ht).1 a ha
    have pr : ∀ a ∈ fp, B.H0 a = none ∨ B.P a := fun a ha => by
      rcases p1 a ha with q | ⟨i, _, q⟩
      · exact .inl (x.frm.new q)
      · exact x.prv i a q
    have dn : ∃ F1, R G B (downE E (rTup rs).src) σ H' F1 ∧ (Kd.shr = .deep → fp.Nodup ∧ ∀ a ∈ fp, Wr H' a ∧ B.H0 a = none) ∧ (Kd.shr = .deep → ∀ a ∈ fp, ∀ j, a ∉ F1 j) ∧ (Kd.shr = .deep → ∀ t ∈ B.T, ∀ a ∈ fp, a ∉ t.2) ∧
        (∀ j, ∀ a ∈ Ow (downE E (rTup rs).src) F1 j, a ∉ fp) ∧ (∀ a ∈ fp, B.H0 a = none ∨ B.P a) := by
      refine ⟨F, (x.same s).down _, (fun z => by cases z), (fun z => by cases z), (fun z => by cases z), fun j a ha z => ?_, pr⟩
      unfold Ow at ha
      rw [kd_down] at ha
      by_cases h : j ∈ (rTup rs).src
      · simp [h, owK] at ha
      · rw [if_neg h] at ha
        rcases p1 a z with q | ⟨i, hi, q⟩
        · exact x.rep.trk j a (owK_sub a ha) q
        · exact x.sep j i (fun e => h (by rw [e]; exact hi)) a ha q
    unfold PV.take
    cases em : (rTup rs).mv with
    | none => exact dn
    | some m =>
      simp only
      by_cases hc : ((m == [] || !false) && m.all (fun j => kd E j == .deep) && decide m.Nodup) = true
      · rw [if_pos hc]
        simp only [Bool.and_eq_true, decide_eq_true_eq] at hc
        obtain ⟨⟨_, hd⟩, hn⟩ := hc
        have hdeep : ∀ j ∈ m, kd E j = .deep := fun j hj => by
          have := List.all_eq_true.mp hd j hj
          simpa using this
        have hOw : ∀ j ∈ m, Ow E F j = F j := fun j hj => by
          unfold Ow
          rw [hdeep j hj]
          rfl
        obtain ⟨fr, p, nf, wf⟩ := p2 m em
        have mem : ∀ a ∈ fp, (a ∈ fr) ∨ ∃ i ∈ m, a ∈ F i := fun a ha => by
          rcases List.mem_append.mp (p.mem_iff.mp ha) with q | q
          · exact .inl q
          · obtain ⟨l, hl, hal⟩ := List.mem_flatten.mp q
            obtain ⟨i, hi, e⟩ := List.mem_map.mp hl
            subst e
            exact .inr ⟨i, hi, hal⟩
        refine ⟨_, (x.same s).kill m, fun _ => ⟨?_, fun a ha => ?_⟩, fun _ a ha j z => ?_, fun _ t ht a ha z => ?_, fun j a ha z => ?_, pr⟩
        · refine p.nodup_iff.mpr (List.nodup_append.mpr ⟨nf, flat_nodup hn (fun i hi => x.nod i (hdeep i hi)) (fun i hi j hj n a ha => x.sep i j n a (by rw [hOw i hi]; exact ha)), fun a ha b hb e => ?_⟩)
          subst e
          obtain ⟨l, hl, hal⟩ := List.mem_flatten.mp hb
          obtain ⟨i, hi, e⟩ := List.mem_map.mp hl
          subst e
          exact x.rep.trk i a hal (wf a ha).1
        · rcases mem a ha with q | ⟨i, hi, q⟩
          · exact ⟨(wf a q).2, x.frm.new (wf a q).1⟩
          · have := x.own i a (by rw [hOw i hi]; exact q)
            exact ⟨this.1.same s, this.2⟩
        · by_cases hj : j ∈ m
          · simp [hj] at z
          · simp only [hj, if_false] at z
            rcases mem a ha with q | ⟨i, hi, q⟩
            · exact x.rep.trk j a z (wf a q).1
            · exact x.sep i j (fun e => hj (by rw [← e]; exact hi)) a (by rw [hOw i hi]; exact q) z
        · rcases mem a ha with q | ⟨i, hi, q⟩
          · exact tr t ht a z (wf a q).1
          · exact (x.tmp t ht).2 i a (by rw [hOw i hi]; exact q) z
        · unfold Ow at ha
          rw [kd_wipe] at ha
          by_cases hj : j ∈ m
          · simp [hj, owK] at ha
          · rw [if_neg hj] at ha
            simp only [hj, if_false] at ha
            rcases mem a z with q | ⟨i, hi, q⟩
            · exact x.rep.trk j a (owK_sub a ha) (wf a q).1
            · exact x.sep j i (fun e => hj (by rw [e]; exact hi)) a ha q
      · rw [if_neg hc]
        exact dn
  obtain ⟨F1, r1, k1, k2, k3, k4, k5⟩ := key
  exact put_all r1 g.reps k1 k2 k3 k4 k5 e
theorem es_par2 (C : XOk k X) {i j : Nat} {x y : Str} {a b : Expr} {f : Sto → Res (List Rs)} {px py pt pos : Pos} {kt k2 pt2} (ha : Ea X W [a, b] f) (hij : i ≠ j)
    (hx : X.env.scope.names.lookup x = some .local) (hy : X.env.scope.names.lookup y = some .local)
    (hw : swappedStores [.Tuple [.Name x px, .Name y py] kt pt] (.Tuple [a, b] k2 pt2) X.env = pure (some [x, y])) (hi : X.N[i]? = some x := by rfl) (hj : X.N[j]? = some y := by rfl)
    (hs : swapsWithSole [.Tuple [.Name x px, .Name y py] kt pt] (.Tuple [a, b] k2 pt2) pos.line X.env = pure false := by rfl) :
    Es X W (.Assign [.Tuple [.Name x px, .Name y py] kt pt] (.Tuple [a, b] k2 pt2) pos) (sPar [i, j] f) := by
  refine ⟨weakS (ps_par C.calm C.nd hi hj hij hx hy ha.pa hw hs) fun D σ H ⟨B, E, F, r, o⟩ => seqSA r o fun rs vs H1 fp e1 s1 g o1 => ?_⟩
  cases eb : sPar.bindK [i, j] (rs.map (·.d)) (PV.take false (rTup rs) E).2 (PV.take false (rTup rs) E).1 with
  | none =>
    rw [eb] at o1
    exact o1.elim
  | some E' =>
    rw [eb] at o1
    obtain ⟨F', r'⟩ := r.takeL s1 g eb
    have hl := g.len
    have h2 : rs.length = 2 := by
      match rs, eb with
      | [], eb => simp [sPar.bindK] at eb
      | [_], eb => simp [sPar.bindK] at eb
      | [_, _], _ => rfl
      | _ :: _ :: _ :: _, eb => simp [sPar.bindK] at eb
    obtain ⟨u, v, e⟩ : ∃ u v, vs = [u, v] := by
      match vs, hl.trans h2 with
      | [u, v], _ => exact ⟨u, v, rfl⟩
    subst e
    exact ⟨u, v, rfl, o1 _ H1 F' r'⟩
theorem es_par3 (C : XOk k X) {i j l : Nat} {x y z : Str} {a b c : Expr} {f : Sto → Res (List Rs)} {px py pz pt pos : Pos} {kt k2 pt2} (ha : Ea X W [a, b, c] f) (hij : i ≠ j) (hil : i ≠ l) (hjl : j ≠ l)
    (hx : X.env.scope.names.lookup x = some .local) (hy : X.env.scope.names.lookup y = some .local) (hz : X.env.scope.names.lookup z = some .local)
    (hw : swappedStores [.Tuple [.Name x px, .Name y py, .Name z pz] kt pt] (.Tuple [a, b, c] k2 pt2) X.env = pure (some [x, y, z])) (hi : X.N[i]? = some x := by rfl) (hj : X.N[j]? = some y := by rfl) (hl : X.N[l]? = some z := by rfl)
    (hs : swapsWithSole [.Tuple [.Name x px, .Name y py, .Name z pz] kt pt] (.Tuple [a, b, c] k2 pt2) pos.line X.env = pure false := by rfl) :
    Es X W (.Assign [.Tuple [.Name x px, .Name y py, .Name z pz] kt pt] (.Tuple [a, b, c] k2 pt2) pos) (sPar [i, j, l] f) := by
  refine ⟨weakS (ps_par3 C.calm C.nd hi hj hl hij hil hjl hx hy hz ha.pa hw hs) fun D σ H ⟨B, E, F, r, o⟩ => seqSA r o fun rs vs H1 fp e1 s1 g o1 => ?_⟩
  cases eb : sPar.bindK [i, j, l] (rs.map (·.d)) (PV.take false (rTup rs) E).2 (PV.take false (rTup rs) E).1 with
  | none =>
    rw [eb] at o1
    exact o1.elim
  | some E' =>
    rw [eb] at o1
    obtain ⟨F', r'⟩ := r.takeL s1 g eb
    have hl := g.len
    have h2 : rs.length = 3 := by
      match rs, eb with
      | [], eb => simp [sPar.bindK] at eb
      | [_], eb => simp [sPar.bindK] at eb
      | [_, _], eb => simp [sPar.bindK] at eb
      | [_, _, _], _ => rfl
      | _ :: _ :: _ :: _ :: _, eb => simp [sPar.bindK] at eb
    obtain ⟨u, v, w, e⟩ : ∃ u v w, vs = [u, v, w] := by
      match vs, hl.trans h2 with
      | [u, v, w], _ => exact ⟨u, v, w, rfl⟩
    subst e
    exact ⟨u, v, w, rfl, o1 _ H1 F' r'⟩
end
end PV

/-! PV12: loops, raise, calls of own defs, what a def keeps. -/
namespace PV
open PySem PySem.Spec L2
section
variable {X : Cx} {W : WX} {k : Nat}
/-! ### while -/
def whileGo (t : Sto → Res Bool) (g : Sto → Res Fl) : Nat → Sto → Res Fl
  | 0, _ => .no
  | n + 1, E => (t E).bind fun b => if b then (g E).bind fun fl => match fl with
      | .nx E' => whileGo t g n E'
      | .ct E' => whileGo t g n E'
      | .bk E' => .ok (.nx E')
      | .rt d dp => .ok (.rt d dp)
    else .ok (.nx E)
theorem es_while (n : Nat) (po : PassesOwn (model X.prog X.w) X.A X.env X.xe) {c : Expr} {body : List Stmt} {pos : Pos} {t : Sto → Res Bool} {g : Sto → Res Fl} (hc : Et X W c t) (hb : Ess X W body g) : Es X W (.While c body [] pos) (whileGo t g n) := by
  refine ⟨weakS (ps_while po hc.pt hb.pss) fun D σ H ⟨B, E, F, r, o⟩ => ?_⟩
  refine ⟨fun m σ H => ∃ E F, R (glo X) B E σ H F ∧ OutS X W B D (whileGo t g m E), ⟨n, E, F, r, o⟩, ?_⟩
  rintro m σ1 H1 ⟨E1, F1, r1, o1⟩
  cases m with
  | zero => exact o1.elim
  | succ m =>
    refine seqSB r1 o1 fun b H2 e2 s2 o2 => ?_
    cases b with
    | false =>
      rw [if_neg Bool.false_ne_true] at o2 ⊢
      exact o2 σ1 H2 F1 (r1.same s2)
    | true =>
      rw [if_pos rfl] at o2 ⊢
      refine ⟨fun σ' H' => ∃ E F, R (glo X) B E σ' H' F ∧ OutS X W B D (whileGo t g m E), fun σ' H' q => ⟨m, Nat.lt_succ_self m, q⟩, B, E1, F1, r1.same s2, ?_⟩
      cases e3 : g E1 with
      | no =>
        rw [e3] at o2
        exact o2
      | exc c =>
        rw [e3] at o2
        exact o2
      | ok fl =>
        rw [e3] at o2
        cases fl with
        | nx E' => exact fun σ' H' F' r' => ⟨E', F', r', o2⟩
        | ct E' => exact fun σ' H' F' r' => ⟨E', F', r', o2⟩
        | bk E' => exact o2
        | rt d dp => exact o2
/-! ### for -/
def forGo (T : Tgt) (g : Sto → Res Fl) : List Dat → Sto → Res Fl
  | [], E => .ok (.nx E)
  | d :: ds, E => match bindT T d E with
    | none => .no
    | some E1 => (g E1).bind fun fl => match fl with
      | .nx E' => forGo T g ds E'
      | .ct E' => forGo T g ds E'
      | .bk E' => .ok (.nx E')
      | .rt d dp => .ok (.rt d dp)
def sFor (T : Tgt) (fi : Sto → Res (List Dat × List Nat)) (g : Sto → Res Fl) : Sto → Res Fl := fun E => (fi E).bind fun p => forGo T g p.1 (downE E p.2)
/-- within a loop: what it leans on must stand, too -/
def Fx.with (B : Fx) (t : (Hp → Prop) × List Addr) : Fx := ⟨B.H0, B.Lk, t :: B.T, B.P⟩
theorem R.less {G : Glo} {B : Fx} {t : (Hp → Prop) × List Addr} {E : Sto} {σ : L2.St} {H : Hp} {F : Fp} (r : R G (B.with t) E σ H F) : R G B E σ H F :=
  ⟨r.rep, r.own, r.nod, r.rot, r.sep, fun u hu => r.pro u (List.mem_cons_of_mem _ hu), fun u hu => r.tmp u (List.mem_cons_of_mem _ hu), r.prv, r.frm⟩
theorem R.more {G : Glo} {B : Fx} {t : (Hp → Prop) × List Addr} {E : Sto} {σ : L2.St} {H : Hp} {F : Fp} (r : R G B E σ H F) (p : Prot t) (h : t.1 H) (n : ∀ i, ∀ a ∈ Ow E F i, a ∉ t.2) : R G (B.with t) E σ H F :=
  ⟨r.rep, r.own, r.nod, r.rot, r.sep, fun u hu => (List.mem_cons.mp hu).elim (fun e => e ▸ p) (r.pro u), fun u hu => (List.mem_cons.mp hu).elim (fun e => e ▸ ⟨h, n⟩) (r.tmp u), r.prv, r.frm⟩
/-- a loop's names hold what is known to others -/
theorem R.bnd {G : Glo} {B : Fx} {E E1 : Sto} {σ σ1 : L2.St} {H : Hp} {F F1 : Fp} {l : List Nat} {f : List Addr} (r : R G B E σ H F) (b : Bnd G H E σ F l f E1 σ1 F1) (h1 : ∀ i, ∀ a ∈ Ow E F i, a ∉ f) (h2 : ∀ a ∈ f, B.H0 a = none ∨ B.P a) : R G B E1 σ1 H F1 := by
  have kk : ∀ j, kd E1 j = if j ∈ l then .shr else kd E j := by
    intro j
    by_cases h : j ∈ l
    · rw [if_pos h]
      unfold kd
      cases e : slot E1 j with
      | none => rfl
      | some x => exact b.kin j x.1 x.2 h e
    · rw [if_neg h]
      unfold kd
      rw [(b.out j h).2]
  have ow : ∀ j, ∀ a ∈ Ow E1 F1 j, j ∉ l ∧ a ∈ Ow E F j := by
    intro j a ha
    unfold Ow at ha ⊢
    rw [kk] at ha
    by_cases h : j ∈ l
    · rw [if_pos h] at ha
      cases ha
    · rw [if_neg h, (b.out j h).1] at ha
      exact ⟨h, ha⟩
  refine ⟨b.rep, fun i a ha => r.own i a (ow i a ha).2, fun i e => ?_, fun i e => ?_, fun i j n a ha z => ?_, r.pro, fun t ht => ⟨(r.tmp t ht).1, fun i a ha => (r.tmp t ht).2 i a (ow i a ha).2⟩, fun i a ha => ?_, r.frm⟩
  · rw [kk] at e
    by_cases h : i ∈ l
    · rw [if_pos h] at e
      cases e
    · rw [if_neg h] at e
      rw [(b.out i h).1]
      exact r.nod i e
  · rw [kk] at e
    by_cases h : i ∈ l
    · rw [if_pos h] at e
      cases e
    · rw [if_neg h] at e
      rw [(b.out i h).1]
      exact r.rot i e
  · obtain ⟨_, q⟩ := ow i a ha
    by_cases h : j ∈ l
    · exact h1 i a q (b.inn j h a z)
    · rw [(b.out j h).1] at z
      exact r.sep i j n a q z
  · by_cases h : i ∈ l
    · exact h2 a (b.inn i h a ha)
    · rw [(b.out i h).1] at ha
      exact r.prv i a ha
theorem OutS.less {B : Fx} {t : (Hp → Prop) × List Addr} {D : Ends} {o : Res Fl} (h : OutS X W B D o) : OutS X W (B.with t) D o := by
  cases o with
  | no => exact h
  | exc c => exact h
  | ok fl =>
    cases fl with
    | nx E' => exact fun σ' H' F' r' => h σ' H' F' r'.less
    | ct E' => exact fun σ' H' F' r' => h σ' H' F' r'.less
    | bk E' => exact fun σ' H' F' r' => h σ' H' F' r'.less
    | rt d dp => exact fun v H' ⟨fp, h1, h2, h3, h4, h5⟩ => h v H' ⟨fp, h1, h2, h3, h4, fun t ht => h5 t (List.mem_cons_of_mem _ ht)⟩
theorem for_weak {T : Tgt} {fi : Sto → Res (List Dat × List Nat)} {g : Sto → Res Fl} (D : Ends) (σ : L2.St) (H : Hp) (h : tEs X W (sFor T fi g) D σ H) : tFor (tEi X W fi) (gT X.K T) (tEs X W g) D σ H := by
  obtain ⟨B, E, F, r, o⟩ := h
  refine ⟨E, F, r.rep, ?_⟩
  unfold sFor at o
  cases e0 : fi E with
  | no =>
    rw [e0] at o
    exact o
  | exc c =>
    rw [e0] at o
    exact fun C' H' m s => o C' σ H' m (r.frm.same s)
  | ok p =>
    obtain ⟨items, src⟩ := p
    rw [e0] at o
    intro J H1 fp Gd s1 it
    have pro : Prot (Gd, fp) := ⟨it.keep, it.trk, it.unl⟩
    have pfp : ∀ a ∈ fp, B.H0 a = none ∨ B.P a := fun a ha => by
      rcases it.src a ha with q | ⟨i, _, q⟩
      · exact .inl (r.frm.new q)
      · exact r.prv i a q
    have r1 : R (glo X) (B.with (Gd, fp)) (downE E src) σ H1 F := by
      refine ((r.same s1).down src).more pro it.now fun i a ha z => ?_
      unfold Ow at ha
      rw [kd_down] at ha
      by_cases h : i ∈ src
      · simp [h, owK] at ha
      · rw [if_neg h] at ha
        rcases it.src a z with q | ⟨j, hj, q⟩
        · exact r.rep.trk i a (owK_sub a ha) q
        · exact r.sep i j (fun e => h (by rw [e]; exact hj)) a ha q
    refine for_it it.walk (fun i σ' H' => ∃ E' F', R (glo X) (B.with (Gd, fp)) E' σ' H' F' ∧ OutS X W B D (forGo T g (items.drop i) E')) ⟨_, F, r1, (show OutS X W B D (forGo T g (items.drop 0) (downE E src)) from by rw [List.drop_zero]; exact o)⟩ (fun i σ' H' _ ⟨E', F', r', _⟩ => (r'.tmp (Gd, fp) (List.mem_cons_self)).1) ?_ ?_
    · rintro i x σ2 H2 H3 hi ⟨E2, F2, r2, o2⟩ ⟨s3, d, f, hd, rd, hf⟩
      have ed : items.drop i = d :: items.drop (i + 1) := by
        have hl := (List.getElem?_eq_some_iff.mp hd)
        obtain ⟨hl, ee⟩ := hl
        rw [List.drop_eq_getElem_cons hl, ee]
      rw [ed] at o2
      simp only [forGo] at o2
      cases eb : bindT T d E2 with
      | none =>
        rw [eb] at o2
        exact o2.elim
      | some E3 =>
        simp only [eb] at o2
        have r3 := r2.same s3
        refine bind_tg (G := glo X) r3.rep rd eb fun σ3 F3 bb => ⟨B.with (Gd, fp), E3, F3, r3.bnd bb (fun i a ha z => (r3.tmp (Gd, fp) List.mem_cons_self).2 i a ha (hf a z)) (fun a ha => pfp a (hf a ha)), ?_⟩
        cases e3 : g E3 with
        | no =>
          rw [e3] at o2
          exact o2
        | exc c =>
          rw [e3] at o2
          exact o2
        | ok fl =>
          rw [e3] at o2
          cases fl with
          | nx E' => exact fun σ' H' F' r' => ⟨E', F', r', o2⟩
          | ct E' => exact fun σ' H' F' r' => ⟨E', F', r', o2⟩
          | bk E' => exact fun σ' H' F' r' => o2 σ' H' F' r'.less
          | rt d' dp => exact fun v H' ⟨fp', h1, h2, h3, h4, h5⟩ => o2 v H' ⟨fp', h1, h2, h3, h4, fun t ht => h5 t (List.mem_cons_of_mem _ ht)⟩
    · rintro σ2 H2 ⟨E2, F2, r2, o2⟩
      rw [List.drop_length] at o2
      exact o2 σ2 H2 F2 r2.less
theorem es_for (po : PassesOwn (model X.prog X.w) X.A X.env X.xe) (C : XOk k X) {T : Tgt} {tg iter : Expr} {body : List Stmt} {pos : Pos} {fi : Sto → Res (List Dat × List Nat)} {g : Sto → Res Fl} (hi : Ei X W tg iter fi) (hg : PG X tg (gT X.K T)) (hb : Ess X W body g)
    (hs : ∀ x, foldedSetIterable iter X.env x = pure x := by intro _; rfl) : Es X W (.For tg iter body [] pos) (sFor T fi g) :=
  ⟨weakS (ps_for po C.calm hi.pi hg hb.pss hs) for_weak⟩
theorem tg_one (C : XOk k X) {i : Nat} {x : Str} {pos : Pos} (hi : X.N[i]? = some x := by rfl) (hx : Loc X.env.scope x := by first | exact Or.inl rfl | exact Or.inr rfl) (hf : X.fn x = true ∨ X.env.scope.names.lookup x = some .local := by first | exact .inl rfl | exact .inr rfl) :
    PG X (.Name x pos) (gT X.K (.one i)) := pg_name C.nd hi hx hf
/-- raise C('..') -/
def sRaise (c : Tx) : Sto → Res Fl := fun _ => .exc c
theorem es_raise (C : XOk k X) (tk : Takes X W) {x m : Str} {c : Tx} {j : Nat} {p p2 pos pos2 : Pos} {A : Addr} {bmB : List Value} {Bn newId initId : String} (F : ExcBaseFacts Bn newId initId bmB) (q : PySem.W.excIn X.K A bmB newId = true) (gC : X.mg x = some (.ref A)) (kC : PySem.W.keepIn X.K (.ref A) = true) (r : Raises X (.ref A))
    (hc : x.cps.toList = c := by rfl) (hg : Gl X x := by rfl) (hdb : (x == ("__debug__" : Str)) = false := by decide) : Es X W (.Raise (some (.Call (.Name x p) [.Constant (.str m) j p2] [] pos)) none pos2) (sRaise c) := by
  refine ⟨weakS (ps_raise C.calm tk (pmk_own F q gC kC r hg hdb)) fun D σ H ⟨B, E, F', rr, o⟩ => ?_⟩
  exact o A σ H (by rw [← hc, mkS_tl]; exact gC) rr.frm

/-! ### own defs -/
abbrev Con := List Dat → Res (Dat × Bool)
/-- a def's promise over pure data -/
def spC (G : Glo) (n : Nat) (c : Con) : Sp := fun vs H Q E => ∃ ds fp, RepL G H ds vs fp ∧ vs.length = n ∧ match c ds with
  | .ok (d, dp) => ∀ v H' f, Same H H' → Rep G H' d v f → (dp = true → f.Nodup ∧ ∀ a ∈ f, H a = none ∧ Wr H' a) → (∀ a ∈ f, H a = none ∨ a ∈ fp) → Q v H'
  | .exc cl => ∀ C H', G.mg (mkS cl) = some (.ref C) → Same H H' → E (.ref C) none H'
  | .no => False
def startE (N : Nat) (ds : List Dat) : Sto := ds.map (fun d => some (d, Kd.shr)) ++ List.replicate (N - ds.length) none
def runF (N n : Nat) (g : Sto → Res Fl) : Con := fun ds => if ds.length = n then match g (startE N ds) with
    | .ok (.rt d dp) => .ok (d, dp)
    | .ok (.nx _) => .ok (.non, true)
    | .exc c => .exc c
    | _ => .no
  else .no
theorem slot_start {N : Nat} {ds : List Dat} {i : Nat} {d : Dat} {k : Kd} (h : slot (startE N ds) i = some (d, k)) : ds[i]? = some d ∧ k = .shr := by
  have e := slot_some h
  unfold startE at e
  by_cases hi : i < ds.length
  · rw [List.getElem?_append_left (by simpa using hi), List.getElem?_map] at e
    cases e2 : ds[i]? with
    | none =>
      rw [e2] at e
      cases e
    | some x =>
      rw [e2] at e
      simp at e
      exact ⟨by rw [e.1], e.2.symm⟩
  · rw [List.getElem?_append_right (by simpa using hi), List.getElem?_replicate] at e
    split at e <;> cases e
theorem start_at {N : List Str} {vs : List V} {i : Nat} {v : V} (h : vs[i]? = some v) : (L2.start N vs)[i]? = some (some v) := by
  unfold L2.start
  have hi := (List.getElem?_eq_some_iff.mp h).1
  rw [List.getElem?_append_left (by simpa using hi), List.getElem?_map, h]
  rfl
open Classical in
/-- at the entry -/
theorem R.start {G : Glo} {H : Hp} {N : List Str} {ds : List Dat} {vs : List V} {fp : List Addr} (r : RepL G H ds vs fp) : ∃ F, R G ⟨H, [], [], fun a => a ∈ fp⟩ (startE N.length ds) (L2.start N vs) H F := by
  have key : ∀ (i : Nat) (d : Dat), ds[i]? = some d → ∃ (v : V) (f : List Addr), vs[i]? = some v ∧ Rep G H d v f ∧ ∀ a ∈ f, a ∈ fp := fun i d h => r.at h
  have pickF : ∀ i : Nat, ∃ f : List Addr, (∀ d : Dat, ds[i]? = some d → ∃ v : V, vs[i]? = some v ∧ Rep G H d v f) ∧ (ds[i]? = none → f = []) ∧ ∀ a ∈ f, a ∈ fp := by
    intro i
    cases e : ds[i]? with
    | none => exact ⟨[], (fun d z => nomatch z), fun _ => rfl, (fun _ z => nomatch z)⟩
    | some d =>
      obtain ⟨v, f, h1, h2, h3⟩ := key i d e
      exact ⟨f, fun d' e' => by
        cases e'
        exact ⟨v, h1, h2⟩, (fun z => nomatch z), h3⟩
  have kdn : ∀ i, kd (startE N.length ds) i = .shr := fun i => by
    unfold kd
    cases e : slot (startE N.length ds) i with
    | none => rfl
    | some x => exact (slot_start (d := x.1) (k := x.2) e).2
  have own : ∀ (F : Fp) i, Ow (startE N.length ds) F i = [] := fun F i => by
    unfold Ow
    rw [kdn]
    rfl
  refine ⟨fun i => (pickF i).choose, ⟨?_, fun i d k e => ?_, fun i e => ?_⟩, fun i a ha => ?_, fun i e => ?_, fun i e => ?_, fun i j n a ha => ?_, (fun _ z => nomatch z), (fun _ z => nomatch z), fun i a ha => .inr ((pickF i).choose_spec.2.2 a ha), fun b o h => .inl h⟩
  · unfold startE L2.start
    simp [r.len]
  · obtain ⟨h1, _⟩ := slot_start e
    obtain ⟨v, q1, q2⟩ := (pickF i).choose_spec.1 d h1
    exact ⟨v, start_at q1, q2⟩
  · refine (pickF i).choose_spec.2.1 ?_
    cases e2 : ds[i]? with
    | none => rfl
    | some d =>
      exfalso
      have : slot (startE N.length ds) i = some (d, .shr) := by
        unfold slot startE
        have hi := (List.getElem?_eq_some_iff.mp e2).1
        rw [List.getElem?_append_left (by simpa using hi), List.getElem?_map, e2]
        rfl
      rw [this] at e
      cases e
  · rw [own] at ha
    cases ha
  · rw [kdn] at e
    cases e
  · rw [kdn] at e
    cases e
  · rw [own] at ha
    cases ha
section
variable {P : Program} {w : World} {K : PySem.W.Frag} {mg : Str → Option Value} {base : Heap}
/-- THE RULE for a def over pure data -/
theorem fn_pv {x qual : Str} {st : Stmt} {f : Addr} {fd : FuncData} {N ps : List Str} {k n : Nat} {g : Sto → Res Fl} {c : Con} (F : Fun K x qual st f fd) (S : FnScope N ps (defScope st)) (hn : ps.length = n)
    (hb : ∀ (cdv : Value) (A : Around) (outer : List Env) (s : Shared) (H : Hp) (E : XK), XOk k (cxOf (L2.CX P w) P w K mg base N qual (defScope st) f cdv A outer s H E) →
      Takes (cxOf (L2.CX P w) P w K mg base N qual (defScope st) f cdv A outer s H E) (fun cls d _ H => E cls d H) →
      PassesOwn (model P w) (cxOf (L2.CX P w) P w K mg base N qual (defScope st) f cdv A outer s H E).A (cxOf (L2.CX P w) P w K mg base N qual (defScope st) f cdv A outer s H E).env (cxOf (L2.CX P w) P w K mg base N qual (defScope st) f cdv A outer s H E).xe →
      Ess (cxOf (L2.CX P w) P w K mg base N qual (defScope st) f cdv A outer s H E) (fun cls d _ H => E cls d H) (defBody st) g)
    (hc : ∀ ds, c ds ≠ .no → runF N.length n g ds = c ds := by exact fun _ _ => rfl) : FnOk P w K mg base (L2.CX P w) (k + 1) f fd ps (spC ⟨K, mg⟩ n c) := by
  refine F.okX S (fun vs H Q E ⟨ds, fp, r, l, _⟩ => l.trans hn.symm) fun cdv A outer s H vs Q E hr ⟨ds, fp, r, l, h⟩ => ?_
  have C : XOk k (cxOf (L2.CX P w) P w K mg base N qual (defScope st) f cdv A outer s H E) := ⟨rfl, S.nd, hr⟩
  refine ⟨_, (hb cdv A outer s H E C (takes_of rfl rfl rfl rfl) (passes_of rfl)).pss, ?_⟩
  obtain ⟨F0, r0⟩ := R.start (N := N) r
  refine ⟨_, _, F0, r0, ?_⟩
  have hcd : runF N.length n g ds = c ds := hc ds fun e => by
    rw [e] at h
    exact h
  rw [← hcd] at h
  have ld : ds.length = n := by rw [← r.len]; exact l
  unfold runF at h
  rw [if_pos ld] at h
  cases e : g (startE N.length ds) with
  | no =>
    simp only [e] at h
  | exc cl =>
    simp only [e] at h
    exact fun C' σ' H' m fr => h C' H' m fun b o q => (fr b o q).elim id fun ⟨z, _⟩ => nomatch z
  | ok fl =>
    cases fl with
    | nx E' =>
      simp only [e] at h
      exact fun σ' H' F' r' => h .non H' [] (fun b o q => (r'.frm b o q).elim id fun ⟨z, _⟩ => nomatch z) mk_non (fun _ => ⟨.nil, (fun _ z => nomatch z)⟩) (fun _ z => nomatch z)
    | rt d dp =>
      simp only [e] at h
      intro v H' ⟨f', q1, q2, q3, q4, _⟩
      exact h v H' f' (fun b o q => (q4 b o q).elim id fun ⟨z, _⟩ => nomatch z) q1 (fun z => ⟨(q2 z).1, fun a ha => ⟨((q2 z).2 a ha).2, ((q2 z).2 a ha).1⟩⟩) q3
    | bk E' => simp only [e] at h
    | ct E' => simp only [e] at h
end
/-! ### a call -/
def fCall (n : Nat) (c : Con) (a : Sto → Res (List Rs)) : Sto → Res Rs := fun E => (a E).bind fun rs => if rs.length ≠ n then .no else match c (rs.map (·.d)) with
  | .ok (d, dp) => .ok (if flat d then rsF d else if dp then ⟨d, false, [], some []⟩ else ⟨d, false, allSrc rs, none⟩)
  | .exc cl => .exc cl
  | .no => .no
theorem call_gv {G : Glo} {H H1 H2 : Hp} {F : Fp} {rs : List Rs} {vs : List V} {fp f : List Addr} {d : Dat} {dp : Bool} {v : V} (s1 : Same H H1) (g : GvL G H F rs vs H1 fp) (r : Rep G H2 d v f) (h1 : dp = true → f.Nodup ∧ ∀ a ∈ f, H1 a = none ∧ Wr H2 a) (h2 : ∀ a ∈ f, H1 a = none ∨ a ∈ fp) :
    Gv G H F (if flat d then rsF d else if dp then ⟨d, false, [], some []⟩ else ⟨d, false, allSrc rs, none⟩) v H2 f := by
  by_cases hf : flat d = true
  · rw [if_pos hf]
    have := Rep.flat _ _ _ r hf
    subst this
    exact Gv.flat r
  · rw [if_neg hf]
    by_cases hd : dp = true
    · rw [if_pos hd]
      obtain ⟨n, w⟩ := h1 hd
      refine ⟨r, fun a ha => .inl (s1.free (w a ha).1), (fun z => nomatch z), fun m em => ?_⟩
      injection em with em
      subst em
      exact ⟨f, by simp, n, fun a ha => ⟨s1.free (w a ha).1, (w a ha).2⟩⟩
    · rw [if_neg hd]
      refine ⟨r, fun a ha => ?_, (fun z => nomatch z), (fun m z => nomatch z)⟩
      rcases h2 a ha with q | q
      · exact .inl (s1.free q)
      · rcases g.src a q with w | ⟨r', hr', i, hi, w⟩
        · exact .inl w
        · exact .inr ⟨i, List.mem_flatMap.mpr ⟨r', hr', hi⟩, w⟩
/-- what a caller knows of a def -/
structure Def (X : Cx) (k : Nat) (x : Str) (n : Nat) (c : Con) : Prop where
  ex : ∃ (f : Addr) (fd : FuncData) (ps : List Str) (j : Nat), FnOk X.prog X.w X.K X.mg X.base (L2.CX X.prog X.w) j f fd ps (spC (glo X) n c) ∧ j ≤ k ∧ X.mg x = some (.ref f) ∧ PySem.W.keepIn X.K (.ref f) = true ∧ Binds X.K fd ps []
theorem ev_call (C : XOk k X) (tk : Takes X W) {x : Str} {n : Nat} {c : Con} {p pos : Pos} {e : Expr} {es : List Expr} {a : Sto → Res (List Rs)} (D : Def X k x n c) (ha : Ea X W (e :: es) a) (hg : Gl X x := by rfl) (hdb : (x == ("__debug__" : Str)) = false := by decide)
    (he : starEach (e :: es) X.env = (false, eval e X.env) :: starEach es X.env := by rfl) (hpl : (backTo pos (starEach es X.env)).any (·.1) = false := by rfl) : Ev X W (.Call (.Name x p) (e :: es) [] pos) (fCall n c a) := by
  obtain ⟨f, fd, ps, j, F, hj, hm, kp, b⟩ := D.ex
  refine ⟨weakE (pe_callS F (C.hr.mono hj) hg hm kp b (fun σ => passAt tk σ) ha.pa hdb he hpl) fun σ H Q ⟨E, F', re, o⟩ => ?_⟩
  refine seqA re o fun rs vs H1 fp e1 s1 g o1 => ?_
  have hl : rs.length = n := Classical.byContradiction fun hl => by
    rw [if_pos hl] at o1
    exact o1.elim
  rw [if_neg (fun z => z hl)] at o1
  refine ⟨rs.map (·.d), fp, g.reps, by rw [g.len]; exact hl, ?_⟩
  cases ec : c (rs.map (·.d)) with
  | no =>
    simp only [ec] at o1
    exact o1
  | exc cl =>
    simp only [ec] at o1
    exact o1
  | ok y =>
    obtain ⟨d, dp⟩ := y
    simp only [ec] at o1
    exact fun v H' f' s2 r h1 h2 => o1 v H' f' s2 (call_gv s1 g r h1 h2)
end
end PV

/-! PV13: isinstance, chains, constants, defs by name and level. -/
namespace PV
open PySem PySem.Spec L2
section
variable {X : Cx} {W : WX} {k : Nat}
/-- an own class whose instances may be asked for their class -/
structure ClsI (X : Cx) (c : Tx) (C : Addr) : Prop where
  mg : X.mg (mkS c) = some (.ref C)
  cl : Cls X.K C
  ha : PySem.W.findIn X.K (.ref C) "__class__" = some (some (.builtin "object.__class__"))
  hn : PySem.W.specialIn X.K (.builtin "object.__class__") "__get__" = some (some (.builtin "getset_descriptor.__get__"))
  htk : PySem.W.takesIn X.K (.builtin "object.__class__") = some true
  hm : PySem.W.mroIn X.K C (.type "object") = some true
def tyS : Dat → Option String
  | .non => some "NoneType"
  | .bl _ => some "bool"
  | .int _ => some "int"
  | .str _ => some "str"
  | .tup _ => some "tuple"
  | .lst _ => some "list"
  | .rol _ => some "list"
  | .dic _ _ => some "dict"
  | _ => none
def gIsi (at_ : String → Option Bool) (own : Tx → Option Bool) (r : Rs) : Res Rs := match r.d with
  | .ins c _ _ => match own c with
    | some b => .ok (rsF (.bl b))
    | none => .no
  | d => match (tyS d).bind at_ with
    | some b => .ok (rsF (.bl b))
    | none => .no
theorem ty_of {G : Glo} {H : Hp} {d : Dat} {v : V} {fp : List Addr} {t : String} (r : Rep G H d v fp) (h : tyS d = some t) : TyX G.K H v (.type t) := by
  cases d <;> simp only [tyS, Option.some.injEq] at h <;> first | cases h | subst h
  · rw [rep_non r]
    exact .base .non
  · rw [rep_bl r]
    exact .base (.bl _)
  · rw [rep_int r]
    exact .base (.int _)
  · rw [rep_str r]
    exact .base (.str _)
  · simp only [Rep] at r
    obtain ⟨a, vs, rfl, q, _⟩ := r
    rcases q with (q | ⟨o, q⟩) | ⟨o, its, n, q, c, _⟩
    · exact .base (.tup q)
    · exact .fTuple q
    · exact .kTuple q c
  · simp only [Rep] at r
    obtain ⟨a, vs, f, rfl, q, _⟩ := r
    exact .base (.lst q)
  · simp only [Rep] at r
    obtain ⟨a, vs, rfl, q, _⟩ := r
    rcases q with ⟨o, q⟩ | ⟨o, its, n, q, c, _⟩
    · exact .base (.frz q)
    · exact .kList q c
  · simp only [Rep] at r
    obtain ⟨a, vs, f, rfl, q, _⟩ := r
    rcases q with q | ⟨o, q⟩
    · exact .base (.dK q)
    · exact .fDict q
theorem ev_isi {e e2 : Expr} {p pos : Pos} {f : Sto → Res Rs} {c : V} {u : Value} {at_ : String → Option Bool} {own : Tx → Option Bool} (hm : X.mg "isinstance" = none) (he : Ev X W e f) (h2 : PE X e2 (tC c)) (hc : ClsV c u)
    (ht : ∀ t b, at_ t = some b → PySem.W.kitOne X.K (.type t) u = some b) (ho : ∀ t b, own t = some b → ∃ C, ClsI X t C ∧ PySem.W.kitOne X.K (.ref C) u = some b) (hgl : Gl X "isinstance" := by rfl)
    (hs : starEach [e, e2] X.env = (false, eval e X.env) :: starEach [e2] X.env := by rfl) (hs2 : starEach [e2] X.env = (false, eval e2 X.env) :: starEach [] X.env := by rfl) (hpl : (backTo pos (starEach [e2] X.env)).any (·.1) = false := by rfl) : Ev X W (.Call (.Name "isinstance" p) [e, e2] [] pos) (fOne (gIsi at_ own) f) := by
  refine ⟨weakE (pe_callB call_isi hgl hm (by decide +kernel) (pa_cons he.pe (pa_cons h2 pa_nil hs2) hs) (by decide) (by decide) hs hpl) fun σ H Q ⟨E, F, re, o⟩ => ?_⟩
  refine seqE re (Same.refl H) o fun r x H1 fp e1 s1 g o1 => ?_
  have p := g.rep
  unfold gIsi at o1
  by_cases hi : ∃ c' ks vs, r.d = .ins c' ks vs
  · obtain ⟨c', ks, vs, ed⟩ := hi
    simp only [ed] at o1
    rw [ed] at p
    cases eo : own c' with
    | none =>
      simp only [eo] at o1
      exact o1.elim
    | some b =>
      simp only [eo] at o1
      obtain ⟨C, ci, hk⟩ := ho c' b eo
      simp only [Rep] at p
      obtain ⟨a, C', dx, vs', f', rfl, q1, q2, _⟩ := p
      have eC : C' = C := by
        have := q1.symm.trans ci.mg
        injection this with this
        injection this
      subst eC
      exact ⟨.ref a, c, .ref C', u, b, rfl, hc, .base (.ins q2 ci.cl ci.ha ci.hn ci.htk ci.hm), hk, o1.flat mk_bl⟩
  · have key : ∀ t, tyS r.d = some t → ∀ b, at_ t = some b → Out X W H H1 F σ (.ok (rsF (.bl b))) Q → rIsi X.K [x, c] H1 Q := fun t e4 b e5 o5 => ⟨x, c, .type t, u, b, rfl, hc, ty_of p e4, ht t b e5, o5.flat mk_bl⟩
    have o2 : Out X W H H1 F σ (match (tyS r.d).bind at_ with
      | some b => .ok (rsF (.bl b))
      | none => .no) Q := by
      cases ed : r.d <;> simp only [ed] at o1 ⊢ <;> first | exact o1 | exact absurd ⟨_, _, _, ed⟩ hi
    cases e4 : tyS r.d with
    | none =>
      rw [e4] at o2
      exact o2.elim
    | some t =>
      rw [e4] at o2
      simp only [Option.bind] at o2
      cases e5 : at_ t with
      | none =>
        simp only [e5] at o2
        exact o2.elim
      | some b =>
        simp only [e5] at o2
        exact key t e4 b e5 o2
def isB (T : String) (t : String) : Option Bool := if t = T then some true else if t = "bool" ∧ T = "int" then some true else some false
def tyN : List String := ["NoneType", "bool", "int", "str", "tuple", "list", "dict"]
def isT (T : String) (t : String) : Option Bool := if t ∈ tyN then isB T t else none
theorem kit_T {K : PySem.W.Frag} {T : String} (h : tyN.all (fun t => kitB t T == isB T t) = true) : ∀ t b, isT T t = some b → PySem.W.kitOne K (.type t) (.type T) = some b := by
  intro t b e
  unfold isT at e
  by_cases ht : t ∈ tyN
  · rw [if_pos ht] at e
    have := List.all_eq_true.mp h t ht
    exact kit_ty ((eq_of_beq this).trans e)
  · rw [if_neg ht] at e
    cases e
def noOwn : Tx → Option Bool := fun _ => none
theorem ev_isiB {e : Expr} {T : String} {x : Str} {p p2 pos : Pos} {f : Sto → Res Rs} (hm : X.mg "isinstance" = none) (he : Ev X W e f) (hx : X.mg x = none) (hv : bootBuiltins x = some (.type T)) (hT : tyN.all (fun t => kitB t T == isB T t) = true) (hn : x ≠ "__name__" := by decide) (hd : (x == ("__debug__" : Str)) = false := by decide) (hgl : Gl X "isinstance" := by rfl) (hgx : Gl X x := by rfl)
    (hs : starEach [e, .Name x p2] X.env = (false, eval e X.env) :: starEach [.Name x p2] X.env := by rfl) : Ev X W (.Call (.Name "isinstance" p) [e, .Name x p2] [] pos) (fOne (gIsi (isT T) noOwn) f) :=
  ev_isi hm he (pe_bltn hgx hx hv (v := .ty T) rfl hn hd) (.ty T) (kit_T hT) (fun _ _ z => nomatch z) hgl hs rfl rfl

/-! ### chains -/
def fChain (g g' : Rs → Rs → Res Rs) (fa fb fc : Sto → Res Rs) : Sto → Res Rs := fun E => (fa E).bind fun ra => (fb E).bind fun rb => (g ra rb).bind fun r => match r.d with
  | .bl true => (fc E).bind fun rc => g' rb rc
  | .bl false => .ok (rsF (.bl false))
  | _ => .no
theorem ev_chain {a b c : Expr} {op op' : CmpOp} {pos : Pos} {r r' : R2} {g g' : Rs → Rs → Res Rs} {fa fb fc : Sto → Res Rs} (ho : OpR X (compareOp op) r) (hg : OpS X r g) (ho' : OpR X (compareOp op') r') (hg' : OpS X r' g') (ha : Ev X W a fa) (hb : Ev X W b fb) (hc : Ev X W c fc)
    (hm : lastMarks [op, op'] [b, c] = false := by with_unfolding_all rfl) : Ev X W (.Compare a [op, op'] [b, c] pos) (fChain g g' fa fb fc) := by
  refine ⟨weakE (pe_chain ho ho' ha.pe hb.pe hc.pe hm) fun σ H Q ⟨E, F, re, o⟩ => ?_⟩
  refine seqE re (Same.refl H) o fun ra x H1 f1 e1 s1 g1 o1 => ?_
  refine seqE (re.same s1) s1 o1 fun rb y H2 f2 e2 s2 g2 o2 => ?_
  refine hg W H H2 F σ ra rb x y f1 f2 _ (s1.trans s2) (fun i => re.trk i) (g1.same s2) g2 ?_
  cases e3 : g ra rb with
  | no =>
    rw [e3] at o2
    exact o2
  | exc cl =>
    rw [e3] at o2
    exact o2
  | ok r =>
    rw [e3] at o2
    intro v H3 fp s3 g3
    have p := g3.rep
    have o3 := o2.mono s3
    simp only [bind_ok] at o3
    cases ed : r.d <;> simp only [ed] at o3 <;> first | exact o3.elim | skip
    rename_i bb
    rw [ed] at p
    refine ⟨bb, rep_bl p, ?_⟩
    cases bb with
    | false =>
      rw [if_neg Bool.false_ne_true]
      exact o3.flat mk_bl
    | true =>
      rw [if_pos rfl]
      refine seqE (re.same (s1.trans (s2.trans s3))) (s1.trans (s2.trans s3)) o3 fun rc z H4 f4 e4 s4 g4 o4 => ?_
      exact hg' W H H4 F σ rb rc y z f2 f4 Q (s1.trans (s2.trans (s3.trans s4))) (fun i => re.trk i) (g2.same (s3.trans s4)) g4 o4
theorem op_ltS : OpS X (rI0 fun i j => V.bl (decide (i < j))) gLt := ops_I0 fun _ _ _ _ => mk_bl
theorem op_leS : OpS X (rI0 fun i j => V.bl (decide (i ≤ j))) gLe := ops_I0 fun _ _ _ _ => mk_bl
theorem ev_leLe {a b c : Expr} {pos : Pos} {fa fb fc : Sto → Res Rs} (ha : Ev X W a fa) (hb : Ev X W b fb) (hc : Ev X W c fc) (hm : lastMarks [.LtE, .LtE] [b, c] = false := by with_unfolding_all rfl) : Ev X W (.Compare a [.LtE, .LtE] [b, c] pos) (fChain gLe gLe fa fb fc) := ev_chain op_le op_leS op_le op_leS ha hb hc hm
theorem ev_leLt {a b c : Expr} {pos : Pos} {fa fb fc : Sto → Res Rs} (ha : Ev X W a fa) (hb : Ev X W b fb) (hc : Ev X W c fc) (hm : lastMarks [.LtE, .Lt] [b, c] = false := by with_unfolding_all rfl) : Ev X W (.Compare a [.LtE, .Lt] [b, c] pos) (fChain gLe gLt fa fb fc) := ev_chain op_le op_leS op_lt op_ltS ha hb hc hm

/-! ### constants of the module -/
theorem ev_gStr {x : Str} {s : Str} {y : Tx} {t} {pos : Pos} (hm : X.mg x = some (.str s t)) (hy : s.cps.toList = y := by rfl) (hg : Gl X x := by rfl) (hd : (x == ("__debug__" : Str)) = false := by decide) : Ev X W (.Name x pos) (fC (.str y)) :=
  ev_glob (v := .str s) hg hm ⟨t, rfl⟩ (by
    simp only [Rep, ← hy, mkS_tl]
    exact ⟨trivial, trivial⟩) hd
theorem ev_gInt {x : Str} {i : Int} {t} {pos : Pos} (hm : X.mg x = some (.int i t)) (hg : Gl X x := by rfl) (hd : (x == ("__debug__" : Str)) = false := by decide) : Ev X W (.Name x pos) (fC (.int i)) :=
  ev_glob (v := .int i) hg hm ⟨t, rfl⟩ mk_int hd
end
/-! ### defs by name and level -/
/-- the def x of the module keeps c, at level k and above -/
def DefP (P : Program) (w : World) (K : PySem.W.Frag) (mg : Str → Option Value) (base : Heap) (k : Nat) (x : Str) (n : Nat) (c : Con) : Prop :=
  ∃ (f : Addr) (fd : FuncData) (ps : List Str) (j : Nat), FnOk P w K mg base (L2.CX P w) j f fd ps (spC ⟨K, mg⟩ n c) ∧ j ≤ k ∧ mg x = some (.ref f) ∧ PySem.W.keepIn K (.ref f) = true ∧ Binds K fd ps []
theorem DefP.at {X : Cx} {k j : Nat} {x : Str} {n : Nat} {c : Con} (d : DefP X.prog X.w X.K X.mg X.base j x n c) (h : j ≤ k := by decide) : Def X k x n c := by
  obtain ⟨f, fd, ps, i, F, hi, r⟩ := d
  exact ⟨f, fd, ps, i, F, Nat.le_trans hi h, r⟩
section
variable {P : Program} {w : World} {K : PySem.W.Frag} {mg : Str → Option Value} {base : Heap}
theorem DefP.mk {k n : Nat} {x : Str} {st : Stmt} {f : Addr} {fd : FuncData} {ps : List Str} {qual : Str} {c : Con} (F : Fun K x qual st f fd) (o : FnOk P w K mg base (L2.CX P w) k f fd ps (spC ⟨K, mg⟩ n c)) (g : mg x = some (.ref f)) (b : Binds K fd ps []) : DefP P w K mg base k x n c :=
  ⟨f, fd, ps, k, o, Nat.le_refl k, g, F.kp, b⟩
/-- another word for the same -/
theorem DefP.to {k n : Nat} {x : Str} {c c' : Con} (d : DefP P w K mg base k x n c) (h : ∀ ds y, c' ds = y → y ≠ .no → c ds = y) : DefP P w K mg base k x n c' := by
  obtain ⟨f, fd, ps, i, F, r⟩ := d
  refine ⟨f, fd, ps, i, ?_, r⟩
  refine F.imp fun vs H Q E ⟨ds, fp, r, l, q⟩ => ⟨ds, fp, r, l, ?_⟩
  by_cases z : c' ds = .no
  · rw [z] at q
    exact q.elim
  · rw [h ds _ rfl z]
    exact q
end
end PV

/-! PV14: comparisons as tests, tests of comprehensions. -/
namespace PV
open PySem PySem.Spec L2
section
variable {X : Cx} {W : WX} {k : Nat}
theorem tofT {f : Sto → Res Rs} {σ : L2.St} {H : Hp} {Q : Bool → Hp → Prop} (h : tEt X W (tOf f) σ H Q) : tTest (tEv X W f) σ H Q := by
  obtain ⟨E, F, re, o⟩ := h
  refine seqET re o fun r v H1 fp e s1 g o1 => ?_
  have gr := g.rep
  unfold toB at o1
  cases ed : r.d with
  | bl b =>
    simp only [ed] at o1
    rw [ed] at gr
    simp only [Rep] at gr
    exact ⟨b, gr.1, o1 H1 (Same.refl H1)⟩
  | _ =>
    simp only [ed] at o1
    exact o1.elim
theorem bin_op {a b : Expr} {r : R2} {g : Rs → Rs → Res Rs} {fa fb : Sto → Res Rs} (hg : OpS X r g) {σ : L2.St} {H : Hp} {Q : VK} (h : tEv X W (fBin g fa fb) σ H Q) : tOp r (tEv X W fa) (tEv X W fb) σ H Q := by
  obtain ⟨E, F, re, o⟩ := h
  refine seqE re (Same.refl H) o fun ra x H1 f1 e1 s1 g1 o1 => ?_
  refine seqE (re.same s1) s1 o1 fun rb y H2 f2 e2 s2 g2 o2 => ?_
  exact hg W H H2 F σ ra rb x y f1 f2 Q (s1.trans s2) (fun i => re.trk i) (g1.same s2) g2 o2
theorem et_cmp {a b : Expr} {op : CmpOp} {pos : Pos} {r : R2} {g : Rs → Rs → Res Rs} {fa fb : Sto → Res Rs} (ho : OpR X (compareOp op) r) (hg : OpS X r g) (ha : Ev X W a fa) (hb : Ev X W b fb) (hm : behindInMarks op b = false) : Et X W (.Compare a [op] [b] pos) (tOf (fBin g fa fb)) :=
  ⟨weakT (pt_cmpR ho ha.pe hb.pe hm) fun σ H Q h => bin_op (a := a) (b := b) hg (tofT h)⟩
section
variable {a b : Expr} {pos : Pos} {fa fb : Sto → Res Rs} (ha : Ev X W a fa) (hb : Ev X W b fb)
include ha hb
theorem et_lt : Et X W (.Compare a [.Lt] [b] pos) (tOf (fBin gLt fa fb)) := et_cmp op_lt (ops_I0 fun _ _ _ _ => mk_bl) ha hb (nomark _)
theorem et_le : Et X W (.Compare a [.LtE] [b] pos) (tOf (fBin gLe fa fb)) := et_cmp op_le (ops_I0 fun _ _ _ _ => mk_bl) ha hb (nomark _)
theorem et_gt : Et X W (.Compare a [.Gt] [b] pos) (tOf (fBin gGt fa fb)) := et_cmp op_gt (ops_I0 fun _ _ _ _ => mk_bl) ha hb (nomark _)
theorem et_ge : Et X W (.Compare a [.GtE] [b] pos) (tOf (fBin gGe fa fb)) := et_cmp op_ge (ops_I0 fun _ _ _ _ => mk_bl) ha hb (nomark _)
theorem et_eq (C : XOk k X) : Et X W (.Compare a [.Eq] [b] pos) (tOf (fBin gEq fa fb)) := et_cmp (op_eqP C) ops_eq ha hb (nomark _)
theorem et_ne (C : XOk k X) : Et X W (.Compare a [.NotEq] [b] pos) (tOf (fBin gNe fa fb)) := et_cmp (op_neP C) ops_ne ha hb (nomark _)
theorem et_in (C : XOk k X) (hm : behindInMarks .In b = false := by rfl) : Et X W (.Compare a [.In] [b] pos) (tOf (fBin (gIn false) fa fb)) := et_cmp (op_inA C) ops_in ha hb hm
theorem et_notIn (C : XOk k X) (hm : behindInMarks .NotIn b = false := by rfl) : Et X W (.Compare a [.NotIn] [b] pos) (tOf (fBin (gIn true) fa fb)) := et_cmp (op_notInA C) ops_in ha hb hm
theorem et_is : Et X W (.Compare a [.Is] [b] pos) (tOf (fBin (gIs false) fa fb)) := et_cmp op_isA ops_is ha hb (nomark _)
theorem et_isNot : Et X W (.Compare a [.IsNot] [b] pos) (tOf (fBin (gIs true) fa fb)) := et_cmp op_isNotA ops_is ha hb (nomark _)
end
theorem chain_op {r r' : R2} {g g' : Rs → Rs → Res Rs} {fa fb fc : Sto → Res Rs} (hg : OpS X r g) (hg' : OpS X r' g') {σ : L2.St} {H : Hp} {Q : VK} (h : tEv X W (fChain g g' fa fb fc) σ H Q) : tChain r r' (tEv X W fa) (tEv X W fb) (tEv X W fc) σ H Q := by
  obtain ⟨E, F, re, o⟩ := h
  refine seqE re (Same.refl H) o fun ra x H1 f1 e1 s1 g1 o1 => ?_
  refine seqE (re.same s1) s1 o1 fun rb y H2 f2 e2 s2 g2 o2 => ?_
  refine hg W H H2 F σ ra rb x y f1 f2 _ (s1.trans s2) (fun i => re.trk i) (g1.same s2) g2 ?_
  cases e3 : g ra rb with
  | no =>
    rw [e3] at o2
    exact o2
  | exc cl =>
    rw [e3] at o2
    exact o2
  | ok r =>
    rw [e3] at o2
    intro v H3 fp s3 g3
    have p := g3.rep
    have o3 := o2.mono s3
    simp only [bind_ok] at o3
    cases ed : r.d <;> simp only [ed] at o3 <;> first | exact o3.elim | skip
    rename_i bb
    rw [ed] at p
    refine ⟨bb, rep_bl p, ?_⟩
    cases bb with
    | false =>
      rw [if_neg Bool.false_ne_true]
      exact o3.flat mk_bl
    | true =>
      rw [if_pos rfl]
      refine seqE (re.same (s1.trans (s2.trans s3))) (s1.trans (s2.trans s3)) o3 fun rc z H4 f4 e4 s4 g4 o4 => ?_
      exact hg' W H H4 F σ rb rc y z f2 f4 Q (s1.trans (s2.trans (s3.trans s4))) (fun i => re.trk i) (g2.same (s3.trans s4)) g4 o4
theorem et_chain {a b c : Expr} {op op' : CmpOp} {pos : Pos} {r r' : R2} {g g' : Rs → Rs → Res Rs} {fa fb fc : Sto → Res Rs} (ho : OpR X (compareOp op) r) (hg : OpS X r g) (ho' : OpR X (compareOp op') r') (hg' : OpS X r' g') (ha : Ev X W a fa) (hb : Ev X W b fb) (hc : Ev X W c fc)
    (hm : lastMarks [op, op'] [b, c] = false := by with_unfolding_all rfl) : Et X W (.Compare a [op, op'] [b, c] pos) (tOf (fChain g g' fa fb fc)) :=
  ⟨weakT (pt_chain ho ho' ha.pe hb.pe hc.pe hm) fun σ H Q h => by
    have := tofT h
    exact chain_op hg hg' this⟩
theorem et_leLe {a b c : Expr} {pos : Pos} {fa fb fc : Sto → Res Rs} (ha : Ev X W a fa) (hb : Ev X W b fb) (hc : Ev X W c fc) (hm : lastMarks [.LtE, .LtE] [b, c] = false := by with_unfolding_all rfl) : Et X W (.Compare a [.LtE, .LtE] [b, c] pos) (tOf (fChain gLe gLe fa fb fc)) := et_chain op_le op_leS op_le op_leS ha hb hc hm
theorem et_leLt {a b c : Expr} {pos : Pos} {fa fb fc : Sto → Res Rs} (ha : Ev X W a fa) (hb : Ev X W b fb) (hc : Ev X W c fc) (hm : lastMarks [.LtE, .Lt] [b, c] = false := by with_unfolding_all rfl) : Et X W (.Compare a [.LtE, .Lt] [b, c] pos) (tOf (fChain gLe gLt fa fb fc)) := et_chain op_le op_leS op_lt op_ltS ha hb hc hm
theorem et_if {c a b : Expr} {pos : Pos} {t f g : Sto → Res Bool} (hc : Et X W c t) (ha : Et X W a f) (hb : Et X W b g) (hp : ∀ {tc ta tb : TT}, PT X c tc → PT X a ta → PT X b tb → PT X (.IfExp c a b pos) (fun σ H Q => tc σ H fun b' H' => if b' then ta σ H' Q else tb σ H' Q)) : Et X W (.IfExp c a b pos) (fun E => (t E).bind fun b' => if b' then f E else g E) := by
  refine ⟨weakT (hp hc.pt ha.pt hb.pt) fun σ H Q ⟨E, F, re, o⟩ => ?_⟩
  refine seqT re o fun b' H1 e s1 o1 => ?_
  cases b' with
  | true => exact ⟨E, F, re.same s1, o1⟩
  | false => exact ⟨E, F, re.same s1, o1⟩
theorem pts_of {X' : Cx} {e : Expr} {f : Sto → Res Bool} (h : Et X' Wn e f) : PTs X' [e] (tEt X' Wn f) := pts_one h.pt
theorem XOk.blk (C : XOk k X) {s : Shared} {H : Hp} {sc : Scope} {en : Env} {fp : List Addr} : XOk k (X.blk s H sc en fp) := ⟨C.calm, C.nd, C.hr⟩
end
end PV

/-! PV15: facts of the module by name; the law's own end. -/
namespace PV
open PySem PySem.Spec L2
section
variable {X : Cx} {W : WX} {k : Nat}
theorem ev_kStr {x : Str} {s : Str} {y : Tx} {pos : Pos} (hm : ∃ t, X.mg x = some (.str s t)) (hy : s.cps.toList = y := by rfl) (hg : Gl X x := by rfl) (hd : (x == ("__debug__" : Str)) = false := by decide) : Ev X W (.Name x pos) (fC (.str y)) := by
  obtain ⟨t, h⟩ := hm
  exact ev_gStr h hy hg hd
theorem ev_kInt {x : Str} {i : Int} {pos : Pos} (hm : ∃ t, X.mg x = some (.int i t)) (hg : Gl X x := by rfl) (hd : (x == ("__debug__" : Str)) = false := by decide) : Ev X W (.Name x pos) (fC (.int i)) := by
  obtain ⟨t, h⟩ := hm
  exact ev_gInt h hg hd
def bmV : List Value := [.type "ValueError", .type "Exception", .type "BaseException", .type "object"]
structure ExcK (K : PySem.W.Frag) (mg : Str → Option Value) (x : Str) : Prop where
  ex : ∃ C, mg x = some (.ref C) ∧ PySem.W.excIn K C bmV "ValueError.__new__" = true ∧ PySem.W.keepIn K (.ref C) = true ∧ PySem.W.subIn K (.ref C) (.type "BaseException") = some true ∧ PySem.W.typeIn K (.ref C) = some (.type "type")
theorem es_raiseK (C : XOk k X) (tk : Takes X W) {x m : Str} {c : Tx} {j : Nat} {p p2 pos pos2 : Pos} (e : ExcK X.K X.mg x) (hc : x.cps.toList = c := by rfl) (hg : Gl X x := by rfl) (hdb : (x == ("__debug__" : Str)) = false := by decide) : Es X W (.Raise (some (.Call (.Name x p) [.Constant (.str m) j p2] [] pos)) none pos2) (sRaise c) := by
  obtain ⟨A, h1, h2, h3, h4, h5⟩ := e.ex
  exact es_raise C tk PySem.F.excBase_ValueError h2 h1 h3 (raises_own h4 h5) hc hg hdb
end
/-! ### built-in types by name -/
theorem boot_str : bootBuiltins "str" = some (.type "str") := by decide +kernel
theorem boot_int : bootBuiltins "int" = some (.type "int") := by decide +kernel
theorem boot_bool : bootBuiltins "bool" = some (.type "bool") := by decide +kernel
theorem boot_list : bootBuiltins "list" = some (.type "list") := by decide +kernel
theorem boot_tuple : bootBuiltins "tuple" = some (.type "tuple") := by decide +kernel
theorem ty_str : tyN.all (fun t => kitB t "str" == isB "str" t) = true := by decide +kernel
theorem ty_int : tyN.all (fun t => kitB t "int" == isB "int" t) = true := by decide +kernel
theorem ty_bool : tyN.all (fun t => kitB t "bool" == isB "bool" t) = true := by decide +kernel
theorem ty_list : tyN.all (fun t => kitB t "list" == isB "list" t) = true := by decide +kernel
theorem ty_tuple : tyN.all (fun t => kitB t "tuple" == isB "tuple" t) = true := by decide +kernel
/-! ### the law's end -/
/-- the law's own promise: any script of its kind, and True -/
def spLaw (K : PySem.W.Frag) : Sp := fun vs H Q _ => ∃ (a : Addr) (ns : List Int), vs = [.ref a] ∧ Only H ∧ SqL K H a (ns.map V.int) ∧ ns.length ≤ 63 ∧ (∀ z ∈ ns, Builtin.Int.intBits z ≤ 1048576) ∧ ∀ H', Q (.bl true) H'
/-- what is to be shown of the law's function -/
def LawTrue (c : Con) : Prop := ∀ ns : List Int, ns.length ≤ 63 → (∀ z ∈ ns, Builtin.Int.intBits z ≤ 1048576) → ∃ dp, c [.rol (ns.map .int)] = .ok (.bl true, dp)
theorem law_end {P : Program} {w : World} {K : PySem.W.Frag} {mg : Str → Option Value} {base : Heap} {k : Nat} {f : Addr} {fd : FuncData} {p : Str} {c : Con} (F : FnOk P w K mg base (L2.CX P w) k f fd [p] (spC ⟨K, mg⟩ 1 c)) (L : LawTrue c) : FnOk P w K mg base (L2.CX P w) k f fd [p] (spLaw K) := by
  refine F.imp fun vs H Q E ⟨a, ns, e, hO, hS, hl, hb, q⟩ => ?_
  obtain ⟨dp, hc⟩ := L ns hl hb
  subst e
  refine ⟨[.rol (ns.map .int)], [], ?_, rfl, ?_⟩
  · refine RepL.one ?_
    simp only [Rep]
    refine ⟨a, _, rfl, ?_, ints_reps ns⟩
    rcases hS with (h | h) | h
    · rcases hO a with z | ⟨o, xs, z⟩
      · rw [z] at h
        cases h
      · rw [z] at h
        cases h
    · exact .inl h
    · exact .inr h
  · rw [hc]
    exact fun v H' f' _ r _ _ => by
      rw [rep_bl r]
      exact q H'
theorem law_start {K : PySem.W.Frag} {H : Hp} {a : Addr} {ns : List Int} (hl : ns.length ≤ 63) (hb : ∀ z ∈ ns, Builtin.Int.intBits z ≤ 1048576) (hO : Only H) (hS : SqL K H a (ns.map V.int)) : spLaw K [.ref a] H (fun v _ => v = .bl true) fun _ _ _ => False :=
  ⟨a, ns, rfl, hO, hS, hl, hb, fun _ => rfl⟩
theorem no_exc {P : Program} {w : World} {outer : List Env} {H : Hp} {s : Shared} {e : Value} {s' : Shared} (h : L2.CX P w outer H s (fun _ _ _ => False) e s') : False := by
  obtain ⟨_, _, _, _, _, _, _, _, _, _, _, _, z⟩ := h
  exact z
end PV

/-! PV16: how the pure functions are reckoned: rewriting rules, one a word, without a step under a binder. -/
namespace PV
open PySem PySem.Spec L2
def fin (r : Res Fl) : Res (Dat × Bool) := match r with
  | .ok (.rt d dp) => .ok (d, dp)
  | .ok (.nx _) => .ok (.non, true)
  | .exc c => .exc c
  | _ => .no
theorem e_bok {α β : Type} (a : α) (f : α → Res β) : (Res.ok a).bind f = f a := (rfl)
theorem e_bexc {α β : Type} (c : Tx) (f : α → Res β) : (Res.exc c : Res α).bind f = .exc c := (rfl)
theorem fin_rt {d : Dat} {dp : Bool} : fin (.ok (.rt d dp)) = .ok (d, dp) := (rfl)
theorem fin_nx {E : Sto} : fin (.ok (.nx E)) = .ok (.non, true) := (rfl)
theorem fin_exc {c : Tx} : fin (.exc c) = .exc c := (rfl)
theorem run1 {N : Nat} {g : Sto → Res Fl} {a : Dat} : runF N 1 g [a] = fin (g (some (a, .shr) :: List.replicate (N - 1) none)) := (rfl)
theorem run2 {N : Nat} {g : Sto → Res Fl} {a b : Dat} : runF N 2 g [a, b] = fin (g (some (a, .shr) :: some (b, .shr) :: List.replicate (N - 2) none)) := (rfl)
theorem run3 {N : Nat} {g : Sto → Res Fl} {a b c : Dat} : runF N 3 g [a, b, c] = fin (g (some (a, .shr) :: some (b, .shr) :: some (c, .shr) :: List.replicate (N - 3) none)) := (rfl)
theorem run4 {N : Nat} {g : Sto → Res Fl} {a b c d : Dat} : runF N 4 g [a, b, c, d] = fin (g (some (a, .shr) :: some (b, .shr) :: some (c, .shr) :: some (d, .shr) :: List.replicate (N - 4) none)) := (rfl)
/-! statements -/
def sSeq1 (h : Sto → Res Fl) (fl : Fl) : Res Fl := match fl with
  | .nx E' => h E'
  | fl => .ok fl
theorem e_seq {g h : Sto → Res Fl} {E : Sto} : sSeq g h E = (g E).bind (sSeq1 h) := (rfl)
theorem e_seq_nx {h : Sto → Res Fl} {E : Sto} : sSeq1 h (.nx E) = h E := (rfl)
theorem e_seq_rt {h : Sto → Res Fl} {d : Dat} {b : Bool} : sSeq1 h (.rt d b) = .ok (.rt d b) := (rfl)
theorem e_seq_bk {h : Sto → Res Fl} {E : Sto} : sSeq1 h (.bk E) = .ok (.bk E) := (rfl)
theorem e_seq_ct {h : Sto → Res Fl} {E : Sto} : sSeq1 h (.ct E) = .ok (.ct E) := (rfl)
theorem e_nil {E : Sto} : sNil E = .ok (.nx E) := (rfl)
theorem e_pass {E : Sto} : sPass E = .ok (.nx E) := (rfl)
theorem e_brk {E : Sto} : sBrk E = .ok (.bk E) := (rfl)
theorem e_cnt {E : Sto} : sCnt E = .ok (.ct E) := (rfl)
theorem e_retN {E : Sto} : sRetN E = .ok (.rt .non true) := (rfl)
theorem e_raise {c : Tx} {E : Sto} : sRaise c E = .exc c := (rfl)
def sDrop1 (E : Sto) (_ : Rs) : Res Fl := .ok (.nx E)
theorem e_drop {f : Sto → Res Rs} {E : Sto} : sDrop f E = (f E).bind (sDrop1 E) := (rfl)
theorem e_drop1 {E : Sto} {r : Rs} : sDrop1 E r = .ok (.nx E) := (rfl)
def sRet1 (E : Sto) (r : Rs) : Res Fl := .ok (.rt r.d (decide ((PV.take false r E).2 = .deep)))
theorem e_ret {f : Sto → Res Rs} {E : Sto} : sRet f E = (f E).bind (sRet1 E) := (rfl)
theorem take_flat {k : Bool} {d : Dat} {rt : Bool} {src : List Nat} {E : Sto} : PV.take k ⟨d, rt, src, some []⟩ E = (E, .deep) := by
  simp [PV.take, wipeE]
theorem take_one {d : Dat} {dd : Dat} {rt : Bool} {src : List Nat} {i : Nat} {E : Sto} (h : slot E i = some (dd, .deep)) : PV.take false ⟨d, rt, src, some [i]⟩ E = (E.set i none, .deep) := by
  simp [PV.take, wipeE, kd, h]
theorem e_ret_deep {d : Dat} {rt : Bool} {src : List Nat} {E : Sto} : sRet1 E ⟨d, rt, src, some []⟩ = .ok (.rt d true) := by
  simp [sRet1, take_flat]
theorem e_ret_one {d dd : Dat} {rt : Bool} {src : List Nat} {i : Nat} {E : Sto} (h : slot E i = some (dd, .deep)) : sRet1 E ⟨d, rt, src, some [i]⟩ = .ok (.rt d true) := by
  simp [sRet1, take_one h]
theorem e_ret_none {d : Dat} {rt : Bool} {src : List Nat} {E : Sto} : sRet1 E ⟨d, rt, src, none⟩ = .ok (.rt d false) := by
  cases rt <;> simp [sRet1, PV.take]
def sIf1 (g h : Sto → Res Fl) (E : Sto) (b : Bool) : Res Fl := match b with
  | true => g E
  | false => h E
theorem e_if {t : Sto → Res Bool} {g h : Sto → Res Fl} {E : Sto} : sIf t g h E = (t E).bind (sIf1 g h E) := by
  unfold sIf
  cases t E with
  | ok b => cases b <;> rfl
  | exc c => rfl
  | no => rfl
theorem e_if_t {g h : Sto → Res Fl} {E : Sto} : sIf1 g h E true = g E := (rfl)
theorem e_if_f {g h : Sto → Res Fl} {E : Sto} : sIf1 g h E false = h E := (rfl)
def sSet1 (k : Bool) (i : Nat) (E : Sto) (r : Rs) : Res Fl :=
  if i < (PV.take k r E).1.length then .ok (.nx ((PV.take k r E).1.set i (some (r.d, (PV.take k r E).2)))) else .no
theorem e_set {k : Bool} {i : Nat} {f : Sto → Res Rs} {E : Sto} : sSet k i f E = (f E).bind (sSet1 k i E) := (rfl)
theorem e_set_deep {k : Bool} {i : Nat} {E : Sto} {d : Dat} {rt : Bool} {src : List Nat} (h : i < E.length) : sSet1 k i E ⟨d, rt, src, some []⟩ = .ok (.nx (E.set i (some (d, .deep)))) := by
  simp [sSet1, take_flat, h]
theorem e_set_none {k : Bool} {i : Nat} {E : Sto} {d : Dat} {rt : Bool} {src : List Nat} (h : i < (downE E src).length) : sSet1 k i E ⟨d, rt, src, none⟩ = .ok (.nx ((downE E src).set i (some (d, if rt then .root else .shr)))) := by
  simp [sSet1, PV.take, h]
theorem e_down_nil {E : Sto} : downE E [] = E := (rfl)
theorem e_wipe_nil {E : Sto} : wipeE E [] = E := (rfl)
theorem e_wipe {E : Sto} {i : Nat} {l : List Nat} : wipeE E (i :: l) = (wipeE E l).set i none := (rfl)
/-! expressions -/
theorem e_c {d : Dat} {E : Sto} : fC d E = .ok ⟨d, false, [], some []⟩ := (rfl)
theorem e_slot0 {x : Option (Dat × Kd)} {E : Sto} : slot (x :: E) 0 = x := (rfl)
theorem e_slotS {x : Option (Dat × Kd)} {E : Sto} {i : Nat} : slot (x :: E) (i + 1) = slot E i := (rfl)
def fVar1 (i : Nat) (o : Option (Dat × Kd)) : Res Rs := match o with
  | some (d, k) => .ok (rVar i d k)
  | none => .no
theorem e_var {i : Nat} {E : Sto} : fVar i E = fVar1 i (slot E i) := (rfl)
theorem e_var1 {i : Nat} {d : Dat} {k : Kd} : fVar1 i (some (d, k)) = .ok (rVar i d k) := (rfl)
theorem e_rv_int {i : Nat} {z : Int} {k : Kd} : rVar i (.int z) k = ⟨.int z, false, [], some []⟩ := (rfl)
theorem e_rv_str {i : Nat} {z : Tx} {k : Kd} : rVar i (.str z) k = ⟨.str z, false, [], some []⟩ := (rfl)
theorem e_rv_bl {i : Nat} {z : Bool} {k : Kd} : rVar i (.bl z) k = ⟨.bl z, false, [], some []⟩ := (rfl)
theorem e_rv_non {i : Nat} {k : Kd} : rVar i .non k = ⟨.non, false, [], some []⟩ := (rfl)
theorem e_rv_lstD {i : Nat} {xs : List Dat} : rVar i (.lst xs) .deep = ⟨.lst xs, false, [i], some [i]⟩ := (rfl)
theorem e_rv_lstR {i : Nat} {xs : List Dat} : rVar i (.lst xs) .root = ⟨.lst xs, false, [i], none⟩ := (rfl)
theorem e_rv_lstS {i : Nat} {xs : List Dat} : rVar i (.lst xs) .shr = ⟨.lst xs, false, [i], none⟩ := (rfl)
theorem e_rv_dicD {i : Nat} {ks : List Tx} {xs : List Dat} : rVar i (.dic ks xs) .deep = ⟨.dic ks xs, false, [i], some [i]⟩ := (rfl)
theorem e_rv_dicR {i : Nat} {ks : List Tx} {xs : List Dat} : rVar i (.dic ks xs) .root = ⟨.dic ks xs, false, [i], none⟩ := (rfl)
theorem e_rv_dicS {i : Nat} {ks : List Tx} {xs : List Dat} : rVar i (.dic ks xs) .shr = ⟨.dic ks xs, false, [i], none⟩ := (rfl)
def fBin1 (g : Rs → Rs → Res Rs) (fb : Sto → Res Rs) (E : Sto) (ra : Rs) : Res Rs := (fb E).bind (g ra)
theorem e_bin {g : Rs → Rs → Res Rs} {fa fb : Sto → Res Rs} {E : Sto} : fBin g fa fb E = (fa E).bind (fBin1 g fb E) := (rfl)
theorem e_bin1 {g : Rs → Rs → Res Rs} {fb : Sto → Res Rs} {E : Sto} {ra : Rs} : fBin1 g fb E ra = (fb E).bind (g ra) := (rfl)
theorem e_one {g : Rs → Res Rs} {f : Sto → Res Rs} {E : Sto} : fOne g f E = (f E).bind g := (rfl)
theorem e_tOf {f : Sto → Res Rs} {E : Sto} : tOf f E = (f E).bind toB := (rfl)
theorem e_toB {b rt : Bool} {s : List Nat} {m : Option (List Nat)} : toB ⟨.bl b, rt, s, m⟩ = .ok b := (rfl)
def tNot1 (b : Bool) : Res Bool := .ok (!b)
theorem e_tNot {f : Sto → Res Bool} {E : Sto} : tNot' f E = (f E).bind tNot1 := (rfl)
theorem e_tNot1 {b : Bool} : tNot1 b = .ok (!b) := (rfl)
def tAnd1 (g : Sto → Res Bool) (E : Sto) (b : Bool) : Res Bool := match b with
  | true => g E
  | false => .ok false
def tOr1 (g : Sto → Res Bool) (E : Sto) (b : Bool) : Res Bool := match b with
  | true => .ok true
  | false => g E
theorem e_tAnd {f g : Sto → Res Bool} {E : Sto} : tAnd' f g E = (f E).bind (tAnd1 g E) := by
  unfold tAnd'
  cases f E with
  | ok b => cases b <;> rfl
  | exc c => rfl
  | no => rfl
theorem e_tOr {f g : Sto → Res Bool} {E : Sto} : tOr' f g E = (f E).bind (tOr1 g E) := by
  unfold tOr'
  cases f E with
  | ok b => cases b <;> rfl
  | exc c => rfl
  | no => rfl
theorem e_tAnd_t {g : Sto → Res Bool} {E : Sto} : tAnd1 g E true = g E := (rfl)
theorem e_tAnd_f {g : Sto → Res Bool} {E : Sto} : tAnd1 g E false = .ok false := (rfl)
theorem e_tOr_t {g : Sto → Res Bool} {E : Sto} : tOr1 g E true = .ok true := (rfl)
theorem e_tOr_f {g : Sto → Res Bool} {E : Sto} : tOr1 g E false = g E := (rfl)
/-- both sides reckoned at once: where the right side has an answer anyway -/
theorem e_tOr_ok {g : Sto → Res Bool} {E : Sto} {a b : Bool} (h : g E = .ok b) : tOr1 g E a = .ok (a || b) := by
  cases a
  · exact h
  · rfl
theorem e_tAnd_ok {g : Sto → Res Bool} {E : Sto} {a b : Bool} (h : g E = .ok b) : tAnd1 g E a = .ok (a && b) := by
  cases a
  · rfl
  · exact h
def fAnd1 (g : Sto → Res Rs) (E : Sto) (r : Rs) : Res Rs := match r.d with
  | .bl true => g E
  | .bl false => .ok (rsF (.bl false))
  | _ => .no
def fOr1 (g : Sto → Res Rs) (E : Sto) (r : Rs) : Res Rs := match r.d with
  | .bl true => .ok (rsF (.bl true))
  | .bl false => g E
  | _ => .no
theorem e_and {f g : Sto → Res Rs} {E : Sto} : fAnd f g E = (f E).bind (fAnd1 g E) := (rfl)
theorem e_or {f g : Sto → Res Rs} {E : Sto} : fOr f g E = (f E).bind (fOr1 g E) := by
  unfold fOr
  cases f E with
  | ok r =>
    obtain ⟨d, a, b, c⟩ := r
    cases d <;> try rfl
    rename_i x
    cases x <;> rfl
  | exc c => rfl
  | no => rfl
section
variable {rt rt' : Bool} {s s' : List Nat} {m m' : Option (List Nat)}
theorem e_and_t {g : Sto → Res Rs} {E : Sto} : fAnd1 g E ⟨.bl true, rt, s, m⟩ = g E := (rfl)
theorem e_and_f {g : Sto → Res Rs} {E : Sto} : fAnd1 g E ⟨.bl false, rt, s, m⟩ = .ok ⟨.bl false, false, [], some []⟩ := (rfl)
theorem e_or_t {g : Sto → Res Rs} {E : Sto} : fOr1 g E ⟨.bl true, rt, s, m⟩ = .ok ⟨.bl true, false, [], some []⟩ := (rfl)
theorem e_or_f {g : Sto → Res Rs} {E : Sto} : fOr1 g E ⟨.bl false, rt, s, m⟩ = g E := (rfl)
theorem e_or_ok {g : Sto → Res Rs} {E : Sto} {a b : Bool} (h : g E = .ok ⟨.bl b, false, [], some []⟩) : fOr1 g E ⟨.bl a, rt, s, m⟩ = .ok ⟨.bl (a || b), false, [], some []⟩ := by
  cases a
  · exact h
  · rfl
theorem e_and_ok {g : Sto → Res Rs} {E : Sto} {a b : Bool} (h : g E = .ok ⟨.bl b, false, [], some []⟩) : fAnd1 g E ⟨.bl a, rt, s, m⟩ = .ok ⟨.bl (a && b), false, [], some []⟩ := by
  cases a
  · rfl
  · exact h
def fNot1 (r : Rs) : Res Rs := match r.d with
  | .bl b => .ok (rsF (.bl (!b)))
  | _ => .no
theorem e_not {f : Sto → Res Rs} {E : Sto} : fNot f E = (f E).bind fNot1 := (rfl)
theorem e_not1 {b : Bool} : fNot1 ⟨.bl b, rt, s, m⟩ = .ok ⟨.bl (!b), false, [], some []⟩ := (rfl)
def fNeg1 (r : Rs) : Res Rs := match r.d with
  | .int i => .ok (rsF (.int (-i)))
  | _ => .no
theorem e_neg {f : Sto → Res Rs} {E : Sto} : fNeg f E = (f E).bind fNeg1 := (rfl)
theorem e_neg1 {i : Int} : fNeg1 ⟨.int i, rt, s, m⟩ = .ok ⟨.int (-i), false, [], some []⟩ := (rfl)
def fIf1 (f g : Sto → Res Rs) (E : Sto) (b : Bool) : Res Rs := match b with
  | true => f E
  | false => g E
theorem e_ife {t : Sto → Res Bool} {f g : Sto → Res Rs} {E : Sto} : fIf t f g E = (t E).bind (fIf1 f g E) := by
  unfold fIf
  cases t E with
  | ok b => cases b <;> rfl
  | exc c => rfl
  | no => rfl
theorem e_ife_t {f g : Sto → Res Rs} {E : Sto} : fIf1 f g E true = f E := (rfl)
theorem e_ife_f {f g : Sto → Res Rs} {E : Sto} : fIf1 f g E false = g E := (rfl)
theorem e_aNil {E : Sto} : aNil E = .ok [] := (rfl)
def aCons1 (g : Sto → Res (List Rs)) (E : Sto) (r : Rs) : Res (List Rs) := (g E).bind fun rs => .ok (r :: rs)
def aCons2 (r : Rs) (rs : List Rs) : Res (List Rs) := .ok (r :: rs)
theorem e_aCons {f : Sto → Res Rs} {g : Sto → Res (List Rs)} {E : Sto} : aCons f g E = (f E).bind (aCons1 g E) := (rfl)
theorem e_aCons1 {g : Sto → Res (List Rs)} {E : Sto} {r : Rs} : aCons1 g E r = (g E).bind (aCons2 r) := (rfl)
theorem e_aCons2 {r : Rs} {rs : List Rs} : aCons2 r rs = .ok (r :: rs) := (rfl)
def fTup1 (rs : List Rs) : Res Rs := if rs.length ≤ 1000000 then .ok (rTup rs) else .no
def fLst1 (rs : List Rs) : Res Rs := if rs.length ≤ 1000000 then .ok (rLst rs) else .no
theorem e_tup {a : Sto → Res (List Rs)} {E : Sto} : fTup a E = (a E).bind fTup1 := (rfl)
theorem e_lst {a : Sto → Res (List Rs)} {E : Sto} : fLst a E = (a E).bind fLst1 := (rfl)
theorem e_tup1 {rs : List Rs} (h : rs.length ≤ 1000000) : fTup1 rs = .ok ⟨.tup (rs.map (·.d)), false, allSrc rs, allMv rs⟩ := by
  unfold fTup1
  rw [if_pos h]
  rfl
theorem e_lst1 {rs : List Rs} (h : rs.length ≤ 1000000) : fLst1 rs = .ok ⟨.lst (rs.map (·.d)), true, allSrc rs, allMv rs⟩ := by
  unfold fLst1
  rw [if_pos h]
  rfl
theorem e_src0 : allSrc [] = [] := (rfl)
theorem e_srcS {r : Rs} {rs : List Rs} : allSrc (r :: rs) = r.src ++ allSrc rs := (rfl)
theorem e_mv0 : allMv [] = some [] := (rfl)
def mvC (m : List Nat) (o : Option (List Nat)) : Option (List Nat) := match o with
  | some n => some (m ++ n)
  | none => none
theorem e_mvS {d : Dat} {l : List Nat} {rs : List Rs} : allMv (⟨d, rt, s, some l⟩ :: rs) = mvC l (allMv rs) := by
  simp only [allMv, mvC]
  cases allMv rs <;> rfl
theorem e_mvN {d : Dat} {rs : List Rs} : allMv (⟨d, rt, s, none⟩ :: rs) = none := by
  simp only [allMv]
theorem e_mvC {l n : List Nat} : mvC l (some n) = some (l ++ n) := (rfl)
theorem e_mvC0 {l : List Nat} : mvC l none = none := (rfl)
/-! operators -/
theorem e_add_i {i j : Int} : gAdd ⟨.int i, rt, s, m⟩ ⟨.int j, rt', s', m'⟩ = .ok ⟨.int (i + j), false, [], some []⟩ := (rfl)
theorem e_add_s {x y : Tx} (h : x.length + y.length ≤ 1000000) : gAdd ⟨.str x, rt, s, m⟩ ⟨.str y, rt', s', m'⟩ = .ok ⟨.str (x ++ y), false, [], some []⟩ := if_pos h
theorem e_add_l {x y : List Dat} (h : x.length + y.length ≤ 1000000) : gAdd ⟨.lst x, rt, s, m⟩ ⟨.lst y, rt', s', m'⟩ = .ok (rNewL (x ++ y) (s ++ s')) := if_pos h
theorem e_sub {i j : Int} : gSub ⟨.int i, rt, s, m⟩ ⟨.int j, rt', s', m'⟩ = .ok ⟨.int (i - j), false, [], some []⟩ := (rfl)
theorem e_mod {i j : Int} (h : 0 < j) : gMod ⟨.int i, rt, s, m⟩ ⟨.int j, rt', s', m'⟩ = .ok ⟨.int (i % j), false, [], some []⟩ := by
  show (if cMod i j = true then _ else _) = _
  rw [if_pos (by simpa [cMod] using h)]
  rfl
theorem e_fdv {i j : Int} (h : 0 < j) (h2 : j < 1073741824) : gFdv ⟨.int i, rt, s, m⟩ ⟨.int j, rt', s', m'⟩ = .ok ⟨.int (i / j), false, [], some []⟩ := by
  show (if cFdv i j = true then _ else _) = _
  rw [if_pos (by simp [cFdv, h, h2])]
  rfl
theorem e_mul {i j : Int} (h : cMul i j = true) : gMul ⟨.int i, rt, s, m⟩ ⟨.int j, rt', s', m'⟩ = .ok ⟨.int (i * j), false, [], some []⟩ := by
  show (if cMul i j = true then _ else _) = _
  rw [if_pos h]
  rfl
theorem e_mul_s {x : Tx} {j : Int} (h : -1000000 ≤ j ∧ j ≤ 1000000 ∧ x.length * j.toNat ≤ 1000000) : gMul ⟨.str x, rt, s, m⟩ ⟨.int j, rt', s', m'⟩ = .ok ⟨.str (List.replicate j.toNat x).flatten, false, [], some []⟩ := if_pos h
theorem e_pow18 : gPow ⟨.int 10, rt, s, m⟩ ⟨.int 18, rt', s', m'⟩ = .ok ⟨.int 1000000000000000000, false, [], some []⟩ := by
  have h : cPow 10 18 = true := by decide
  simp only [gPow, gI, h, if_true]
  rfl
theorem e_lt {i j : Int} : gLt ⟨.int i, rt, s, m⟩ ⟨.int j, rt', s', m'⟩ = .ok ⟨.bl (decide (i < j)), false, [], some []⟩ := (rfl)
theorem e_le {i j : Int} : gLe ⟨.int i, rt, s, m⟩ ⟨.int j, rt', s', m'⟩ = .ok ⟨.bl (decide (i ≤ j)), false, [], some []⟩ := (rfl)
theorem e_gt {i j : Int} : gGt ⟨.int i, rt, s, m⟩ ⟨.int j, rt', s', m'⟩ = .ok ⟨.bl (decide (j < i)), false, [], some []⟩ := (rfl)
theorem e_ge {i j : Int} : gGe ⟨.int i, rt, s, m⟩ ⟨.int j, rt', s', m'⟩ = .ok ⟨.bl (decide (j ≤ i)), false, [], some []⟩ := (rfl)
def gEq1 (neg b : Bool) : Res Rs := .ok ⟨.bl (if neg then !b else b), false, [], some []⟩
theorem e_eq {a b : Dat} : gEq ⟨a, rt, s, m⟩ ⟨b, rt', s', m'⟩ = (eqF a b).bind (gEq1 false) := (rfl)
theorem e_ne {a b : Dat} : gNe ⟨a, rt, s, m⟩ ⟨b, rt', s', m'⟩ = (eqF a b).bind (gEq1 true) := (rfl)
theorem e_eq1 {b : Bool} : gEq1 false b = .ok ⟨.bl b, false, [], some []⟩ := (rfl)
theorem e_ne1 {b : Bool} : gEq1 true b = .ok ⟨.bl (!b), false, [], some []⟩ := (rfl)
theorem eqF_s {x y : Tx} : eqF (.str x) (.str y) = .ok (decide (x = y)) := (rfl)
theorem eqF_i {x y : Int} : eqF (.int x) (.int y) = .ok (decide (x = y)) := by
  show Res.ok (x == y) = _
  rw [show (x == y) = decide (x = y) from rfl]
theorem eqF_b {x y : Bool} : eqF (.bl x) (.bl y) = .ok (x == y) := (rfl)
theorem eqF_ln {xs : List Dat} : eqF (.lst xs) (.lst []) = .ok (decide (xs.length = 0)) := by
  cases xs
  · rfl
  · simp [eqF, eqD, vw, eqL]
theorem eqF_rn {xs : List Dat} : eqF (.rol xs) (.lst []) = .ok (decide (xs.length = 0)) := by
  cases xs
  · rfl
  · simp [eqF, eqD, vw, eqL]
theorem e_in_s {neg : Bool} {c : Nat} {y : Tx} : gIn neg ⟨.str [c], rt, s, m⟩ ⟨.str y, rt', s', m'⟩ = .ok (rsB neg (decide (c ∈ y))) := (rfl)
def gIn1 (neg b : Bool) : Res Rs := .ok (rsB neg b)
theorem e_in_l {neg : Bool} {a : Dat} {ys : List Dat} : gIn neg ⟨a, rt, s, m⟩ ⟨.lst ys, rt', s', m'⟩ = (anyEq a ys).bind (gIn1 neg) := (rfl)
theorem e_in_r {neg : Bool} {a : Dat} {ys : List Dat} : gIn neg ⟨a, rt, s, m⟩ ⟨.rol ys, rt', s', m'⟩ = (anyEq a ys).bind (gIn1 neg) := (rfl)
theorem e_in_t {neg : Bool} {a : Dat} {ys : List Dat} : gIn neg ⟨a, rt, s, m⟩ ⟨.tup ys, rt', s', m'⟩ = (anyEq a ys).bind (gIn1 neg) := (rfl)
theorem e_in_d {neg : Bool} {x : Tx} {ks : List Tx} {ds : List Dat} : gIn neg ⟨.str x, rt, s, m⟩ ⟨.dic ks ds, rt', s', m'⟩ = .ok (rsB neg (ks.contains x)) := (rfl)
theorem e_in1 {neg b : Bool} : gIn1 neg b = .ok (rsB neg b) := (rfl)
theorem e_rsB_f {b : Bool} : rsB false b = ⟨.bl b, false, [], some []⟩ := (rfl)
theorem e_rsB_t {b : Bool} : rsB true b = ⟨.bl (!b), false, [], some []⟩ := (rfl)
theorem anyEq_s {x : Tx} : ∀ {ys : List Tx}, anyEq (.str x) (ys.map .str) = .ok (ys.contains x)
  | [] => rfl
  | y :: ys => by
    show (eqF (.str y) (.str x)).bind _ = _
    rw [eqF_s, bind_ok, anyEq_s, bind_ok, List.contains_cons]
    have : decide (y = x) = (x == y) := by
      by_cases h : y = x
      · rw [decide_eq_true h, h]
        exact (beq_self_eq_true x).symm
      · rw [decide_eq_false h]
        exact (beq_eq_false_iff_ne.mpr fun e => h e.symm).symm
    rw [this]
theorem anyEq_c {a y : Dat} {ys : List Dat} {b c : Bool} (h : eqF y a = .ok b) (h2 : anyEq a ys = .ok c) : anyEq a (y :: ys) = .ok (b || c) := by
  show (eqF y a).bind _ = _
  rw [h, bind_ok, h2, bind_ok]
theorem anyEq_0 {a : Dat} : anyEq a [] = .ok false := (rfl)
theorem e_pick_s {r : Rs} {x : Tx} : pick r (.str x) = ⟨.str x, false, [], some []⟩ := (rfl)
theorem e_pick_i {r : Rs} {x : Int} : pick r (.int x) = ⟨.int x, false, [], some []⟩ := (rfl)
theorem e_pick_b {r : Rs} {x : Bool} : pick r (.bl x) = ⟨.bl x, false, [], some []⟩ := (rfl)
theorem e_pick_l {r : Rs} {x : List Dat} : pick r (.lst x) = ⟨.lst x, false, r.src, none⟩ := (rfl)
theorem e_pick_d {r : Rs} {ks : List Tx} {x : List Dat} : pick r (.dic ks x) = ⟨.dic ks x, false, r.src, none⟩ := (rfl)
def subs1 (r : Rs) (o : Option Dat) : Res Rs := match o with
  | some d => .ok (pick r d)
  | none => .no
def subsS (n : Nat) (o : Option Nat) : Res Rs := match o with
  | some c => if n ≤ 1000000 then .ok ⟨.str [c], false, [], some []⟩ else .no
  | none => .no
theorem e_subs_l {xs : List Dat} {i : Int} : gSubs ⟨.lst xs, rt, s, m⟩ ⟨.int i, rt', s', m'⟩ = subs1 ⟨.lst xs, rt, s, m⟩ (dAt xs i) := by
  first
    | (simp only [gSubs, subs1]; done)
    | (simp only [gSubs, subs1]; cases dAt xs i <;> rfl)
theorem e_subs_r {xs : List Dat} {i : Int} : gSubs ⟨.rol xs, rt, s, m⟩ ⟨.int i, rt', s', m'⟩ = subs1 ⟨.rol xs, rt, s, m⟩ (dAt xs i) := by
  first
    | (simp only [gSubs, subs1]; done)
    | (simp only [gSubs, subs1]; cases dAt xs i <;> rfl)
theorem e_subs_t {xs : List Dat} {i : Int} : gSubs ⟨.tup xs, rt, s, m⟩ ⟨.int i, rt', s', m'⟩ = subs1 ⟨.tup xs, rt, s, m⟩ (dAt xs i) := by
  first
    | (simp only [gSubs, subs1]; done)
    | (simp only [gSubs, subs1]; cases dAt xs i <;> rfl)
theorem e_subs_s {x : Tx} {i : Int} : gSubs ⟨.str x, rt, s, m⟩ ⟨.int i, rt', s', m'⟩ = subsS x.length ((ixN x.length i).bind (fun j => x[j]?)) := by
  first
    | (simp only [gSubs, subsS]; done)
    | (simp only [gSubs, subsS]; cases (ixN x.length i).bind (fun j => x[j]?) <;> rfl)
theorem e_subs_d {ks : List Tx} {ds : List Dat} {x : Tx} : gSubs ⟨.dic ks ds, rt, s, m⟩ ⟨.str x, rt', s', m'⟩ = subs1 ⟨.dic ks ds, rt, s, m⟩ (dGet ks ds x) := by
  first
    | (simp only [gSubs, subs1]; done)
    | (simp only [gSubs, subs1]; cases dGet ks ds x <;> rfl)
theorem e_subs1 {r : Rs} {d : Dat} : subs1 r (some d) = .ok (pick r d) := (rfl)
theorem e_subsS {n : Nat} {c : Nat} (h : n ≤ 1000000) : subsS n (some c) = .ok ⟨.str [c], false, [], some []⟩ := by
  unfold subsS
  simp only [if_pos h]
theorem e_oNone {E : Sto} : oNone E = .ok none := (rfl)
def oSome1 (r : Rs) : Res (Option Int) := match r.d with
  | .int i => .ok (some i)
  | _ => .no
theorem e_oSome {f : Sto → Res Rs} {E : Sto} : oSome f E = (f E).bind oSome1 := (rfl)
theorem e_oSome1 {i : Int} : oSome1 ⟨.int i, rt, s, m⟩ = .ok (some i) := (rfl)
def fSl1 (lo hi : Sto → Res (Option Int)) (E : Sto) (r : Rs) : Res Rs := (lo E).bind fun l => (hi E).bind fun h => gSl r l h
def fSl2 (hi : Sto → Res (Option Int)) (E : Sto) (r : Rs) (l : Option Int) : Res Rs := (hi E).bind (gSl r l)
theorem e_sl {f : Sto → Res Rs} {lo hi : Sto → Res (Option Int)} {E : Sto} : fSl f lo hi E = (f E).bind (fSl1 lo hi E) := (rfl)
theorem e_sl1 {lo hi : Sto → Res (Option Int)} {E : Sto} {r : Rs} : fSl1 lo hi E r = (lo E).bind (fSl2 hi E r) := (rfl)
theorem e_sl2 {hi : Sto → Res (Option Int)} {E : Sto} {r : Rs} {l : Option Int} : fSl2 hi E r l = (hi E).bind (gSl r l) := (rfl)
theorem e_sl_s {x : Tx} {lo hi : Option Int} (h : x.length ≤ 1000000) : gSl ⟨.str x, rt, s, m⟩ lo hi = .ok ⟨.str (cutD x lo hi), false, [], some []⟩ := if_pos h
theorem e_sl_l {x : List Dat} {lo hi : Option Int} (h : x.length ≤ 1000000) : gSl ⟨.lst x, rt, s, m⟩ lo hi = .ok (rNewL (cutD x lo hi) s) := if_pos h
theorem e_sl_r {x : List Dat} {lo hi : Option Int} (h : x.length ≤ 1000000) : gSl ⟨.rol x, rt, s, m⟩ lo hi = .ok (rNewL (cutD x lo hi) s) := if_pos h
theorem e_newL {x : List Dat} {l : List Nat} (h : flatL x = true) : rNewL x l = ⟨.lst x, true, l, some []⟩ := by
  unfold rNewL
  rw [if_pos h]
theorem e_newN {x : List Dat} {l : List Nat} (h : flatL x = false) : rNewL x l = ⟨.lst x, true, l, none⟩ := by
  unfold rNewL
  rw [h]
  rfl
theorem e_len_l {x : List Dat} : gLen ⟨.lst x, rt, s, m⟩ = .ok ⟨.int x.length, false, [], some []⟩ := (rfl)
theorem e_len_r {x : List Dat} : gLen ⟨.rol x, rt, s, m⟩ = .ok ⟨.int x.length, false, [], some []⟩ := (rfl)
theorem e_len_t {x : List Dat} : gLen ⟨.tup x, rt, s, m⟩ = .ok ⟨.int x.length, false, [], some []⟩ := (rfl)
theorem e_len_d {ks : List Tx} {x : List Dat} : gLen ⟨.dic ks x, rt, s, m⟩ = .ok ⟨.int ks.length, false, [], some []⟩ := (rfl)
theorem e_len_s {x : Tx} (h : x.length ≤ 1000000) : gLen ⟨.str x, rt, s, m⟩ = .ok ⟨.int x.length, false, [], some []⟩ := if_pos h
theorem ints_map : ∀ ns : List Int, intsOf (ns.map .int) = some ns
  | [] => rfl
  | n :: ns => by
    show (intsOf (ns.map .int)).map _ = _
    rw [ints_map ns]
    rfl
theorem bls_map : ∀ ns : List Bool, blsOf (ns.map .bl) = some ns
  | [] => rfl
  | n :: ns => by
    show (blsOf (ns.map .bl)).map _ = _
    rw [bls_map ns]
    rfl
theorem strs_map : ∀ ns : List Tx, strsOf (ns.map .str) = some ns
  | [] => rfl
  | n :: ns => by
    show (strsOf (ns.map .str)).map _ = _
    rw [strs_map ns]
    rfl
theorem flat_strs : ∀ ns : List Tx, flatL (ns.map .str) = true
  | [] => rfl
  | n :: ns => by
    show (flat (.str n) && flatL (ns.map .str)) = true
    rw [flat_strs ns]
    rfl
theorem flat_ints : ∀ ns : List Int, flatL (ns.map .int) = true
  | [] => rfl
  | n :: ns => by
    show (flat (.int n) && flatL (ns.map .int)) = true
    rw [flat_ints ns]
    rfl
theorem e_sum {ns : List Int} : gSum ⟨.lst (ns.map .int), rt, s, m⟩ = .ok ⟨.int ns.sum, false, [], some []⟩ := by
  simp only [gSum, seqOf, Option.bind, ints_map]
  rfl
theorem e_all {ns : List Bool} : gAll ⟨.lst (ns.map .bl), rt, s, m⟩ = .ok ⟨.bl (ns.all id), false, [], some []⟩ := by
  simp only [gAll, seqOf, Option.bind, bls_map]
  rfl
theorem e_any {ns : List Bool} : gAny ⟨.lst (ns.map .bl), rt, s, m⟩ = .ok ⟨.bl (ns.any id), false, [], some []⟩ := by
  simp only [gAny, seqOf, Option.bind, bls_map]
  rfl
/-! methods of texts -/
def fM11 (g : Tx → Rs → Res Rs) (f : Sto → Res Rs) (E : Sto) (ra : Rs) : Res Rs := match ra.d with
  | .str a => (f E).bind fun rb => g a rb
  | _ => .no
theorem e_m1 {g : Tx → Rs → Res Rs} {fo f : Sto → Res Rs} {E : Sto} : fM1 g fo f E = (fo E).bind (fM11 g f E) := (rfl)
theorem e_m11 {g : Tx → Rs → Res Rs} {f : Sto → Res Rs} {E : Sto} {a : Tx} : fM11 g f E ⟨.str a, rt, s, m⟩ = (f E).bind (g a) := (rfl)
theorem e_startsw {a b : Tx} : gStartsW a ⟨.str b, rt, s, m⟩ = .ok ⟨.bl (a.take b.length == b), false, [], some []⟩ := (rfl)
theorem e_strip {a b : Tx} (h : a.length ≤ 1000000) : gStrip a ⟨.str b, rt, s, m⟩ = .ok ⟨.str (stripL (fun c => b.contains c) a), false, [], some []⟩ := if_pos h
theorem e_lstrip {a b : Tx} (h : a.length ≤ 1000000) : gLstrip a ⟨.str b, rt, s, m⟩ = .ok ⟨.str (a.dropWhile (fun c => b.contains c)), false, [], some []⟩ := if_pos h
theorem e_split {a b : Tx} (h : b ≠ [] ∧ b.all (· < 256) = true ∧ a.length ≤ 1000000) : gSplit a ⟨.str b, rt, s, m⟩ = .ok ⟨.lst ((splitL b a).map Dat.str), true, [], some []⟩ := by
  show (if _ then _ else _) = _
  rw [if_pos h, e_newL (flat_strs _)]
theorem e_join {a : Tx} {ys : List Tx} (h : (ys.map (·.length)).sum + ys.length * a.length ≤ 1000000) : gJoin a ⟨.lst (ys.map .str), rt, s, m⟩ = .ok ⟨.str (joinT a ys), false, [], some []⟩ := by
  simp only [gJoin, seqOf, Option.bind, strs_map]
  rw [if_pos h]
  rfl
/-! iterables, loops, comprehensions -/
theorem e_iOf {f : Sto → Res Rs} {E : Sto} : iOf f E = (f E).bind gItems := (rfl)
theorem e_it_l {xs : List Dat} : gItems ⟨.lst xs, rt, s, m⟩ = .ok (xs, s) := (rfl)
theorem e_it_r {xs : List Dat} : gItems ⟨.rol xs, rt, s, m⟩ = .ok (xs, s) := (rfl)
theorem e_it_t {xs : List Dat} : gItems ⟨.tup xs, rt, s, m⟩ = .ok (xs, s) := (rfl)
theorem e_it_s {x : Tx} : gItems ⟨.str x, rt, s, m⟩ = .ok (x.map (fun c => Dat.str [c]), []) := (rfl)
theorem e_range1 {f : Sto → Res Rs} {E : Sto} : iRange1 f E = (f E).bind gRange1 := (rfl)
theorem e_rg1 {j : Int} (h : -1000000 ≤ j ∧ j ≤ 1000000) : gRange1 ⟨.int j, rt, s, m⟩ = .ok ((List.range j.toNat).map (fun (i : Nat) => Dat.int i), []) := by
  show (if _ then _ else _) = _
  rw [if_pos h]
  simp
def sFor1 (T : Tgt) (g : Sto → Res Fl) (E : Sto) (p : List Dat × List Nat) : Res Fl := forGo T g p.1 (downE E p.2)
theorem e_for {T : Tgt} {fi : Sto → Res (List Dat × List Nat)} {g : Sto → Res Fl} {E : Sto} : sFor T fi g E = (fi E).bind (sFor1 T g E) := (rfl)
theorem e_for1 {T : Tgt} {g : Sto → Res Fl} {E : Sto} {xs : List Dat} {l : List Nat} : sFor1 T g E (xs, l) = forGo T g xs (downE E l) := (rfl)
def fComp1 (T : Tgt) (own : List Nat) (ft : Sto → Res Bool) (fe : Sto → Res Rs) (E : Sto) (p : List Dat × List Nat) : Res Rs := match compGo (stepC T (wipeE E own) ft fe) p.1 with
  | .ok rs => if rs.length ≤ 1000000 then .ok (rComp T rs p.2) else .no
  | _ => .no
theorem e_comp {T : Tgt} {own : List Nat} {fi : Sto → Res (List Dat × List Nat)} {ft : Sto → Res Bool} {fe : Sto → Res Rs} {E : Sto} : fComp T own fi ft fe E = (fi E).bind (fComp1 T own ft fe E) := (rfl)
theorem e_comp1 {T : Tgt} {own : List Nat} {ft : Sto → Res Bool} {fe : Sto → Res Rs} {E : Sto} {xs : List Dat} {l : List Nat} {rs : List Rs} (h : compGo (stepC T (wipeE E own) ft fe) xs = .ok rs) (h2 : rs.length ≤ 1000000) : fComp1 T own ft fe E (xs, l) = .ok (rComp T rs l) := by
  simp only [fComp1, h, if_pos h2]
theorem e_tTrue {E : Sto} : tTrue E = .ok true := (rfl)
/-- a comprehension's items: with a test, by functions -/
theorem compGo_of {st : Dat → Res (Option Rs)} {α : Type} {e : α → Dat} {p : α → Bool} {f : α → Rs} : ∀ {xs : List α}, (∀ x ∈ xs, st (e x) = .ok (if p x then some (f x) else none)) → compGo st (xs.map e) = .ok ((xs.filter p).map f)
  | [], _ => rfl
  | x :: xs, h => by
    have ih := compGo_of (xs := xs) fun y hy => h y (List.mem_cons_of_mem _ hy)
    show (st (e x)).bind _ = _
    rw [h x List.mem_cons_self, bind_ok, ih, bind_ok]
    cases hp : p x
    · rw [List.filter_cons_of_neg (by simp [hp])]
      rfl
    · rw [List.filter_cons_of_pos hp]
      rfl
/-- the same without one -/
theorem compGo_map {st : Dat → Res (Option Rs)} {α : Type} {e : α → Dat} {f : α → Rs} {xs : List α} (h : ∀ x ∈ xs, st (e x) = .ok (some (f x))) : compGo st (xs.map e) = .ok (xs.map f) := by
  have := compGo_of (st := st) (e := e) (p := fun _ => true) (f := f) (xs := xs) (by simpa using h)
  rw [List.filter_eq_self.mpr fun _ _ => rfl] at this
  exact this
def stepC1 (fe : Sto → Res Rs) (E1 : Sto) (b : Bool) : Res (Option Rs) := match b with
  | true => (fe E1).bind fun r => .ok (some r)
  | false => .ok none
def stepC2 (r : Rs) : Res (Option Rs) := .ok (some r)
theorem e_step {T : Tgt} {E E1 : Sto} {ft : Sto → Res Bool} {fe : Sto → Res Rs} {d : Dat} (h : bindT T d E = some E1) : stepC T E ft fe d = (ft E1).bind (stepC1 fe E1) := by
  simp only [stepC, h]
  cases ft E1 with
  | ok b => cases b <;> rfl
  | exc c => rfl
  | no => rfl
theorem e_step_t {fe : Sto → Res Rs} {E1 : Sto} : stepC1 fe E1 true = (fe E1).bind stepC2 := (rfl)
theorem e_step_f {fe : Sto → Res Rs} {E1 : Sto} : stepC1 fe E1 false = .ok none := (rfl)
theorem e_step2 {r : Rs} : stepC2 r = .ok (some r) := (rfl)
theorem e_bind1 {i : Nat} {d : Dat} {E : Sto} (h : i < E.length) : bindT (.one i) d E = some (E.set i (some (d, .shr))) := if_pos h
theorem rComp_flat {T : Tgt} {rs : List Rs} {l : List Nat} (h : ∀ r ∈ rs, r.mv = some []) : (rComp T rs l).mv = some [] := by
  show (if rs.all isDeep then some [] else none) = _
  rw [if_pos (List.all_eq_true.mpr fun r hr => by simp [isDeep, h r hr])]
/-! calls -/
def fCall1 (n : Nat) (c : Con) (rs : List Rs) : Res Rs := if rs.length ≠ n then .no else match c (rs.map (·.d)) with
  | .ok (d, dp) => .ok (if flat d then rsF d else if dp then ⟨d, false, [], some []⟩ else ⟨d, false, allSrc rs, none⟩)
  | .exc cl => .exc cl
  | .no => .no
theorem e_call {n : Nat} {c : Con} {a : Sto → Res (List Rs)} {E : Sto} : fCall n c a E = (a E).bind (fCall1 n c) := (rfl)
def fCall2 (rs : List Rs) (p : Dat × Bool) : Res Rs := .ok (if flat p.1 then rsF p.1 else if p.2 then ⟨p.1, false, [], some []⟩ else ⟨p.1, false, allSrc rs, none⟩)
theorem e_call1 {n : Nat} {c : Con} {rs : List Rs} (h : rs.length = n) : fCall1 n c rs = (c (rs.map (·.d))).bind (fCall2 rs) := by
  unfold fCall1
  rw [if_neg (fun z => z h)]
  cases c (rs.map (·.d)) with
  | ok p => rfl
  | exc c => rfl
  | no => rfl
theorem e_call_s {rs : List Rs} {x : Tx} {b : Bool} : fCall2 rs (.str x, b) = .ok ⟨.str x, false, [], some []⟩ := (rfl)
theorem e_call_i {rs : List Rs} {x : Int} {b : Bool} : fCall2 rs (.int x, b) = .ok ⟨.int x, false, [], some []⟩ := (rfl)
theorem e_call_b {rs : List Rs} {x : Bool} {b : Bool} : fCall2 rs (.bl x, b) = .ok ⟨.bl x, false, [], some []⟩ := (rfl)
theorem e_call_n {rs : List Rs} {b : Bool} : fCall2 rs (.non, b) = .ok ⟨.non, false, [], some []⟩ := (rfl)
theorem e_call_l {rs : List Rs} {x : List Dat} : fCall2 rs (.lst x, true) = .ok ⟨.lst x, false, [], some []⟩ := (rfl)
theorem e_call_d {rs : List Rs} {ks : List Tx} {x : List Dat} : fCall2 rs (.dic ks x, true) = .ok ⟨.dic ks x, false, [], some []⟩ := (rfl)
theorem e_isi_s {t : String} {own : Tx → Option Bool} {x : Tx} : gIsi (isT t) own ⟨.str x, rt, s, m⟩ = .ok ⟨.bl (decide ("str" = t)), false, [], some []⟩ := by
  show (match isT t "str" with | some b => Res.ok (rsF (.bl b)) | none => .no) = _
  have : isT t "str" = some (decide ("str" = t)) := by
    unfold isT isB
    rw [if_pos (by decide)]
    by_cases h : "str" = t
    · rw [if_pos h, decide_eq_true h]
    · rw [if_neg h, if_neg (fun z => absurd z.1 (by decide)), decide_eq_false h]
  rw [this]
  rfl
end
/-! slices, all places -/
theorem e_cut_hi {α : Type} {xs : List α} {z : Int} (h : 0 ≤ z) : cutD xs none (some z) = xs.take z.toNat := by
  obtain ⟨k, rfl⟩ := Int.eq_ofNat_of_zero_le h
  unfold cutD
  rw [HT.sIx_none, HT.sIx_nat, List.drop_zero, Nat.sub_zero]
  show List.take (min k xs.length) xs = List.take k xs
  by_cases hk : k ≤ xs.length
  · rw [Nat.min_eq_left hk]
  · rw [Nat.min_eq_right (by omega), List.take_of_length_le (Nat.le_refl _), List.take_of_length_le (by omega)]
theorem e_cut_lo {α : Type} {xs : List α} {z : Int} (h : 0 ≤ z) : cutD xs (some z) none = xs.drop z.toNat := by
  obtain ⟨k, rfl⟩ := Int.eq_ofNat_of_zero_le h
  unfold cutD
  rw [HT.sIx_none, HT.sIx_nat]
  show List.take (xs.length - min k xs.length) (List.drop (min k xs.length) xs) = List.drop k xs
  by_cases hk : k ≤ xs.length
  · rw [Nat.min_eq_left hk, List.take_of_length_le (by rw [List.length_drop]; exact Nat.le_refl _)]
  · rw [Nat.min_eq_right (by omega), List.drop_of_length_le (Nat.le_refl _), List.drop_of_length_le (by omega), List.take_nil]
theorem e_cut_mid {α : Type} {xs : List α} {z y : Int} (h : 0 ≤ z) (h2 : 0 ≤ y) : cutD xs (some z) (some y) = (xs.drop z.toNat).take (y.toNat - z.toNat) := by
  obtain ⟨k, rfl⟩ := Int.eq_ofNat_of_zero_le h
  obtain ⟨l, rfl⟩ := Int.eq_ofNat_of_zero_le h2
  unfold cutD
  rw [HT.sIx_nat, HT.sIx_nat]
  show List.take (min l xs.length - min k xs.length) (List.drop (min k xs.length) xs) = List.take (l - k) (List.drop k xs)
  by_cases hk : k ≤ xs.length
  · rw [Nat.min_eq_left hk]
    by_cases hl : l ≤ xs.length
    · rw [Nat.min_eq_left hl]
    · rw [Nat.min_eq_right (by omega), List.take_of_length_le (by rw [List.length_drop]; exact Nat.le_refl _), List.take_of_length_le (by rw [List.length_drop]; omega)]
  · rw [Nat.min_eq_right (by omega : xs.length ≤ k), List.drop_of_length_le (Nat.le_refl _), List.drop_of_length_le (by omega), List.take_nil, List.take_nil]
theorem e_cut_last {α : Type} {xs : List α} : cutD xs (some (-1)) none = xs.drop (xs.length - 1) := by
  unfold cutD
  rw [HT.sIx_none]
  have : HT.sIx xs.length 0 (some (-1)) = xs.length - 1 := by
    show (if (-1 : Int) < 0 then ((-1 : Int) + (xs.length : Int)).toNat else min (-1 : Int).toNat xs.length) = _
    rw [if_pos (by decide)]
    omega
  rw [this, List.take_of_length_le (by rw [List.length_drop]; exact Nat.le_refl _)]
theorem e_cut_init {α : Type} {xs : List α} : cutD xs none (some (-1)) = xs.take (xs.length - 1) := by
  unfold cutD
  rw [HT.sIx_none]
  have : HT.sIx xs.length xs.length (some (-1)) = xs.length - 1 := by
    show (if (-1 : Int) < 0 then ((-1 : Int) + (xs.length : Int)).toNat else min (-1 : Int).toNat xs.length) = _
    rw [if_pos (by decide)]
    omega
  rw [this, List.drop_zero, Nat.sub_zero]
theorem dAt_nat {xs : List Dat} {z : Int} (h : 0 ≤ z) (h2 : z.toNat < xs.length) : dAt xs z = xs[z.toNat]? := by
  unfold dAt ixN
  rw [if_pos h, if_pos (by omega)]
  rfl
theorem dAt_map {α : Type} {e : α → Dat} {xs : List α} {z : Int} (h : 0 ≤ z) (h2 : z < xs.length) : ∃ x, xs[z.toNat]? = some x ∧ x ∈ xs ∧ dAt (xs.map e) z = some (e x) := by
  have hl : z.toNat < xs.length := by omega
  refine ⟨xs[z.toNat], List.getElem?_eq_getElem hl, List.getElem_mem hl, ?_⟩
  rw [dAt_nat h (by simpa using hl), List.getElem?_map, List.getElem?_eq_getElem hl]
  rfl
section
variable {rt rt' : Bool} {s s' : List Nat} {m m' : Option (List Nat)}
theorem e_rv_rol {i : Nat} {ns : List Int} {k : Kd} : rVar i (.rol (ns.map .int)) k = ⟨.rol (ns.map .int), false, [], some []⟩ := by
  unfold rVar
  have : flat (.rol (ns.map .int)) = true := by
    show flatL _ = true
    exact flat_ints ns
  rw [if_pos this]
  rfl
def sPar1 (is : List Nat) (E : Sto) (rs : List Rs) : Res Fl := match sPar.bindK is (rs.map (·.d)) (PV.take false (rTup rs) E).2 (PV.take false (rTup rs) E).1 with
  | some E' => .ok (.nx E')
  | none => .no
theorem e_par {is : List Nat} {f : Sto → Res (List Rs)} {E : Sto} : sPar is f E = (f E).bind (sPar1 is E) := (rfl)
theorem e_par2 {i j : Nat} {E : Sto} {a b : Dat} (hi : i < E.length) (hj : j < E.length) (h : decide (i = j) = false) : sPar1 [i, j] E [⟨a, rt, s, some []⟩, ⟨b, rt', s', some []⟩] = .ok (.nx ((E.set i (some (a, .deep))).set j (some (b, .deep)))) := by
  have hne : ¬ i = j := of_decide_eq_false h
  have e : rTup [⟨a, rt, s, some []⟩, ⟨b, rt', s', some []⟩] = ⟨.tup [a, b], false, s ++ (s' ++ []), some []⟩ := rfl
  unfold sPar1
  rw [e, take_flat]
  simp [sPar.bindK, hi, hj, hne]
theorem e_par3 {i j l : Nat} {E : Sto} {a b c : Dat} {rt'' : Bool} {s'' : List Nat} (hi : i < E.length) (hj : j < E.length) (hl : l < E.length) (h : decide (i = j) = false) (h1 : decide (i = l) = false) (h2 : decide (j = l) = false) :
    sPar1 [i, j, l] E [⟨a, rt, s, some []⟩, ⟨b, rt', s', some []⟩, ⟨c, rt'', s'', some []⟩] = .ok (.nx (((E.set i (some (a, .deep))).set j (some (b, .deep))).set l (some (c, .deep)))) := by
  have hne : ¬ i = j := of_decide_eq_false h
  have hn1 : ¬ i = l := of_decide_eq_false h1
  have hn2 : ¬ j = l := of_decide_eq_false h2
  have e : rTup [⟨a, rt, s, some []⟩, ⟨b, rt', s', some []⟩, ⟨c, rt'', s'', some []⟩] = ⟨.tup [a, b, c], false, s ++ (s' ++ (s'' ++ [])), some []⟩ := rfl
  unfold sPar1
  rw [e, take_flat]
  simp [sPar.bindK, hi, hj, hl, hne, hn1, hn2]
theorem rComp_F {α : Type} {f : α → Dat} {xs : List α} {T : Tgt} {l : List Nat} : rComp T (xs.map fun x => ⟨f x, false, [], some []⟩) l = ⟨.lst (xs.map f), true, l, some []⟩ := by
  have h1 : (rComp T (xs.map fun x => ⟨f x, false, [], some []⟩) l).mv = some [] := rComp_flat fun r hr => by
    obtain ⟨x, _, rfl⟩ := List.mem_map.mp hr
    rfl
  have h2 : allSrc (xs.map fun x => (⟨f x, false, [], some []⟩ : Rs)) = [] := by
    unfold allSrc
    rw [List.flatMap_eq_nil_iff]
    intro r hr
    obtain ⟨x, _, rfl⟩ := List.mem_map.mp hr
    rfl
  have h3 : (xs.map fun x => (⟨f x, false, [], some []⟩ : Rs)).map (·.d) = xs.map f := by
    rw [List.map_map]
    rfl
  have h4 : rComp T (xs.map fun x => ⟨f x, false, [], some []⟩) l = ⟨.lst ((xs.map fun x => (⟨f x, false, [], some []⟩ : Rs)).map (·.d)), true, (allSrc (xs.map fun x => (⟨f x, false, [], some []⟩ : Rs))).filter (fun j => decide (j ∉ slotsT T)) ++ l, (rComp T (xs.map fun x => ⟨f x, false, [], some []⟩) l).mv⟩ := rfl
  rw [h4, h1, h2, h3]
  rfl
theorem gAll_F {α : Type} {f : α → Bool} {xs : List α} : gAll ⟨.lst (xs.map fun x => .bl (f x)), rt, s, m⟩ = .ok ⟨.bl (xs.all f), false, [], some []⟩ := by
  have : (xs.map fun x => Dat.bl (f x)) = (xs.map f).map .bl := by
    rw [List.map_map]
    rfl
  rw [this, e_all, List.all_map]
  rfl
theorem gAny_F {α : Type} {f : α → Bool} {xs : List α} : gAny ⟨.lst (xs.map fun x => .bl (f x)), rt, s, m⟩ = .ok ⟨.bl (xs.any f), false, [], some []⟩ := by
  have : (xs.map fun x => Dat.bl (f x)) = (xs.map f).map .bl := by
    rw [List.map_map]
    rfl
  rw [this, e_any, List.any_map]
  rfl
end
/-! ### numbers of any size -/
theorem cMul_of {i j : Int} {m n : Nat} (hi : Builtin.Int.intBits i ≤ m) (hj : Builtin.Int.intBits j ≤ n) (h : m + n ≤ 134217728) : cMul i j = true := by
  unfold cMul
  rw [decide_eq_true_eq]
  omega
def wh2 (t : Sto → Res Bool) (g : Sto → Res Fl) (n : Nat) (fl : Fl) : Res Fl := match fl with
  | .nx E' => whileGo t g n E'
  | .ct E' => whileGo t g n E'
  | .bk E' => .ok (.nx E')
  | .rt d dp => .ok (.rt d dp)
def wh1 (t : Sto → Res Bool) (g : Sto → Res Fl) (n : Nat) (E : Sto) (b : Bool) : Res Fl := match b with
  | true => (g E).bind (wh2 t g n)
  | false => .ok (.nx E)
/-- one turn (not among the rules: by hand) -/
theorem while_S {t : Sto → Res Bool} {g : Sto → Res Fl} {n : Nat} {E : Sto} : whileGo t g (n + 1) E = (t E).bind (wh1 t g n E) := by
  simp only [whileGo]
  cases t E with
  | ok b =>
    cases b
    · rfl
    · show (g E).bind _ = (g E).bind _
      cases g E with
      | ok fl => cases fl <;> rfl
      | exc c => rfl
      | no => rfl
  | exc c => rfl
  | no => rfl
theorem e_wh1_t {t : Sto → Res Bool} {g : Sto → Res Fl} {n : Nat} {E : Sto} : wh1 t g n E true = (g E).bind (wh2 t g n) := (rfl)
theorem e_wh1_f {t : Sto → Res Bool} {g : Sto → Res Fl} {n : Nat} {E : Sto} : wh1 t g n E false = .ok (.nx E) := (rfl)
theorem e_wh2_nx {t : Sto → Res Bool} {g : Sto → Res Fl} {n : Nat} {E : Sto} : wh2 t g n (.nx E) = whileGo t g n E := (rfl)
theorem e_wh2_ct {t : Sto → Res Bool} {g : Sto → Res Fl} {n : Nat} {E : Sto} : wh2 t g n (.ct E) = whileGo t g n E := (rfl)
theorem e_wh2_bk {t : Sto → Res Bool} {g : Sto → Res Fl} {n : Nat} {E : Sto} : wh2 t g n (.bk E) = .ok (.nx E) := (rfl)
theorem e_wh2_rt {t : Sto → Res Bool} {g : Sto → Res Fl} {n : Nat} {d : Dat} {b : Bool} : wh2 t g n (.rt d b) = .ok (.rt d b) := (rfl)
/-! ### loops by an invariant -/
theorem forGo_inv {T : Tgt} {g : Sto → Res Fl} (I : List Dat → Sto → Prop) : ∀ {ds : List Dat} {E : Sto}, I ds E → (∀ d rest E, I (d :: rest) E → ∃ E1 E2, bindT T d E = some E1 ∧ (g E1 = .ok (.nx E2) ∨ g E1 = .ok (.ct E2)) ∧ I rest E2) → ∃ E', forGo T g ds E = .ok (.nx E') ∧ I [] E'
  | [], E, h, _ => ⟨E, rfl, h⟩
  | d :: ds, E, h, st => by
    obtain ⟨E1, E2, hb, hg, hi⟩ := st d ds E h
    obtain ⟨E', h1, h2⟩ := forGo_inv I hi st
    refine ⟨E', ?_, h2⟩
    simp only [forGo, hb]
    rcases hg with hg | hg
    · rw [hg]
      exact h1
    · rw [hg]
      exact h1
end PV

/-! PV17: sets of texts, as far as they are asked how many they hold and sorted. -/
namespace PV
open PySem PySem.Spec PyProof.Rows L2
/-- what a row of such a set holds -/
def tOfE (e : Int × Value) : Str := match e.2 with
  | .str k _ => k
  | _ => Str.empty
def TxE (w : World) (e : Int × Value) : Prop := ∃ k u, e.2 = Value.str k u ∧ e.1 = hashStr w k
/-- the set at a holds the texts ks, each once -/
def TxSet (w : World) (h : Heap) (a : Addr) (ks : List Str) : Prop :=
  ∃ o es ep t, h.get? a = some o ∧ o.ExactSet ∧ o.data = .set es ep t ∧ (∀ e ∈ es.toList, TxE w e) ∧ (es.toList.map tOfE).Perm ks ∧ ks.Nodup ∧ es.size < scanBound ∧ t.fits es.size = true ∧ Ris t.place.toList ∧ (w.params.followText "set-order" = true ∨ t.led = true)
section
variable {P : Program} {w : World} {h h' : Heap} {a : Addr} {ks : List Str}
theorem TxSet.keep (x : TxSet w h a ks) (k : ∀ o, h.get? a = some o → h'.get? a = some o) : TxSet w h' a ks := by
  obtain ⟨o, es, ep, t, ho, r⟩ := x
  exact ⟨o, es, ep, t, k o ho, r⟩
theorem tx_elems {l : List (Int × Value)} (g : ∀ e ∈ l, TxE w e) : ElemsOf (PySem.strKind P w) l := fun e he => by
  obtain ⟨k, u, q1, q2⟩ := g e he
  exact ⟨⟨k, by rw [q1]; exact strKind_is P w k u, q2⟩, by rw [q1]; rfl⟩
theorem tx_is {e : Int × Value} (g : TxE w e) (k : Str) : (PySem.strKind P w).is k e.2 = true ↔ tOfE e = k := by
  obtain ⟨k0, u, q1, _⟩ := g
  unfold tOfE
  rw [q1]
  show ((k0 == k) = true) ↔ k0 = k
  exact ⟨fun z => eq_of_beq z, fun z => z ▸ beq_self_eq_true k0⟩
theorem tx_mem {l : List (Int × Value)} (g : ∀ e ∈ l, TxE w e) (k : Str) : k ∈ l.map tOfE ↔ ∃ e ∈ l, (PySem.strKind P w).is k e.2 = true := by
  rw [List.mem_map]
  exact ⟨fun ⟨e, m, q⟩ => ⟨e, m, (tx_is (g e m) k).2 q⟩, fun ⟨e, m, q⟩ => ⟨e, m, (tx_is (g e m) k).1 q⟩⟩
end
section
variable {P : Program} {w : World} {A : Around} {E : Value → Shared → Prop} {s : Shared} {a : Addr} {ks : List Str}
theorem tx_tail {g : Bool → Sem Unit} (hg : ∀ (b : Bool) (s1 : Shared) (Q1 : Unit → Shared → Prop), Q1 () s1 → wpAny (model P w) A (g b) Q1 E s1)
    {o : Obj} {es : Array (Int × Value)} {ep : Nat} {t : SetTable} (ho : s.heap.get? a = some o) (hex : o.ExactSet) (hd : o.data = .set es ep t)
    {e1 : Array (Int × Value)} {t2 : SetTable} {k1 : List Str} (g1 : ∀ e ∈ e1.toList, TxE w e) (p1 : (e1.toList.map tOfE).Perm k1) (nd : k1.Nodup)
    (hb : e1.size < scanBound) (hf : t2.fits e1.size = true) (hr : Ris t2.place.toList) (hl : w.params.followText "set-order" = true ∨ t2.led = true) {dm : Bool} {R : Option Bool → Shared → Prop}
    (hR : ∀ h', Heap.SameBut a s.heap h' → TxSet w h' a k1 → R (some true) { s with heap := h' }) :
    wpAny (model P w) A (do
        storeSet a e1 t2
        if (!dm && t2.tooFull) = true then do
            g (relayAll t2 e1 (SetTable.grown e1.size)).2.2
            storeSet a (relayAll t2 e1 (SetTable.grown e1.size)).1 (relayAll t2 e1 (SetTable.grown e1.size)).2.1
            pure (some true)
          else pure (some true)) R E s := by
  refine wpAny_bind (wpAny_storeSet_of ho hd ?_ (fits_of_scanBound hb))
  have o1 := store_at (es' := e1) (t' := t2) ho hd
  have b1 := Heap.SameBut.update s.heap a (Obj.putSet e1 t2)
  split
  · have pm := relayAll_perm t2 e1 (SetTable.grown e1.size)
    have f3 := relayAll_fits t2 e1 (SetTable.grown e1.size)
    have r3 := relayAll_ris t2 e1 (SetTable.grown e1.size)
    have l3 := relayAll_led t2 e1 (SetTable.grown e1.size)
    generalize relayAll t2 e1 (SetTable.grown e1.size) = Z at pm f3 r3 l3 ⊢
    obtain ⟨e2, t3, gv⟩ := Z
    dsimp only at pm f3 r3 l3 ⊢
    have hz : e2.size = e1.size := by rw [← Array.length_toList, pm.length_eq, Array.length_toList]
    have b2 : e2.size < scanBound := by rw [hz]; exact hb
    refine wpAny_bind (hg _ _ _ ?_)
    refine wpAny_bind (wpAny_storeSet_of o1 rfl ?_ (fits_of_scanBound b2))
    have o2 := store_at (es' := e2) (t' := t3) o1 rfl
    refine wpAny_pure (hR _ (b1.trans (Heap.SameBut.update _ a _)) ?_)
    exact ⟨_, e2, _, t3, o2, hex, rfl, fun e he => g1 e (pm.mem_iff.mp he), (pm.map tOfE).trans p1, nd, b2, f3, r3, hl.imp id fun z => by rw [l3]; exact z⟩
  · exact wpAny_pure (hR _ b1 ⟨_, e1, _, t2, o1, hex, rfl, g1, p1, nd, hb, hf, hr, hl⟩)
theorem tx_add {k : Str} {u : Tok} {Q : Bool → Shared → Prop} (x : TxSet w s.heap a ks) (room : ks.length + 1 < scanBound)
    (hQ : ∀ h', Heap.SameBut a s.heap h' → TxSet w h' a (if k ∈ ks then ks else ks ++ [k]) → Q (!decide (k ∈ ks)) { s with heap := h' }) :
    wpAny (model P w) A (setAddHashed a (.str k u) ((PySem.strKind P w).hash k)) Q E s := by
  obtain ⟨o, es, ep, t, ho, hex, hd, g, pk, nd, hb, hf, hr, hl⟩ := x
  have hn : es.size = ks.length := by rw [← Array.length_toList, ← pk.length_eq, List.length_map]
  have hkey : (PySem.strKind P w).is k (.str k u) = true := strKind_is P w k u
  have hsc : (Value.str k u).scannable = true := rfl
  have hel : ElemsOf (PySem.strKind P w) es.toList := tx_elems g
  unfold setAddHashed setAddHashedIn
  refine wpAny_holding (wpAny_bind (wpAny_setState_of ho hd hf ?_))
  dsimp only
  rw [byScan_of hsc hb hel]
  simp only [↓reduceIte]
  unfold setAddByScan
  refine wpAny_bind ?_
  refine wpAny_bind (wpAny_rule ?_)
  refine wpAny_bind (wpAny_setScan_of hkey ho hd hf hel ?_)
  cases hfi : List.findIdx? (fun e => (PySem.strKind P w).is k e.2) es.toList with
  | some j =>
    dsimp only
    obtain ⟨hj, pj, _⟩ := List.findIdx?_eq_some_iff_getElem.mp hfi
    have hm : k ∈ ks := pk.mem_iff.mp ((tx_mem (P := P) g k).2 ⟨es.toList[j], List.getElem_mem hj, pj⟩)
    refine wpAny_pure (wpAny_pure ?_)
    have q := hQ s.heap (Heap.SameBut.refl a s.heap) (by
      rw [if_pos hm]
      exact ⟨o, es, ep, t, ho, hex, hd, g, pk, nd, hb, hf, hr, hl⟩)
    rw [decide_eq_true hm] at q
    exact q
  | none =>
    dsimp only
    have hm : k ∉ ks := fun z => by
      obtain ⟨e, he, q⟩ := (tx_mem (P := P) g k).1 (pk.mem_iff.mpr z)
      have c := List.findIdx?_eq_none_iff.mp hfi e he
      rw [q] at c
      cases c
    have gw : ∀ (b : Bool) {s1 : Shared} {Q1 : Unit → Shared → Prop}, Q1 () s1 → wpAny (model P w) A (match b with | true => rule "set.scan.the-table-gave-way" | false => pure ()) Q1 E s1 := fun b s1 Q1 q => by
      cases b
      · exact wpAny_pure q
      · exact wpAny_rule q
    have pm := layNew_perm t es ((PySem.strKind P w).hash k) (.str k u)
    have f1 := layNew_fits t es ((PySem.strKind P w).hash k) (.str k u)
    have r1 := layNew_ris t es ((PySem.strKind P w).hash k) (.str k u) hr
    have l1 := layNew_led t es ((PySem.strKind P w).hash k) (.str k u)
    generalize layNew t es ((PySem.strKind P w).hash k) (.str k u) = Z at pm f1 r1 l1 ⊢
    obtain ⟨e1, t1, dm, gv⟩ := Z
    dsimp only at pm f1 r1 l1 ⊢
    rw [Array.toList_push] at pm
    have p1 : (e1.toList.map tOfE).Perm (ks ++ [k]) := by
      have z := pm.map tOfE
      rw [List.map_append] at z
      exact z.trans (pk.append_right [k])
    have g1 : ∀ e ∈ e1.toList, TxE w e := fun e he => by
      rcases List.mem_append.mp (pm.mem_iff.mp he) with z | z
      · exact g e z
      · rw [List.mem_singleton.mp z]
        exact ⟨k, u, rfl, rfl⟩
    have n1 : (ks ++ [k]).Nodup := List.nodup_append.mpr ⟨nd, List.nodup_cons.mpr ⟨(fun z => nomatch z), List.Pairwise.nil⟩, fun y hy z hz e => hm (by rw [← List.mem_singleton.mp hz, ← e]; exact hy)⟩
    have hz : e1.size = ks.length + 1 := by rw [← Array.length_toList, pm.length_eq, List.length_append, Array.length_toList, hn]; rfl
    have b1 : e1.size < scanBound := by rw [hz]; exact room
    have led : w.params.followText "set-order" = true ∨ t1.led = true := hl.imp id fun z => by rw [l1]; exact z
    have fi : ∀ h', Heap.SameBut a s.heap h' → TxSet w h' a (ks ++ [k]) → Q true { s with heap := h' } := fun h' sb r => by
      have q := hQ h' sb
      rw [if_neg hm, decide_eq_false hm] at q
      exact q r
    refine wpAny_bind (gw _ ?_)
    have gt : ∀ (b : Bool) (s1 : Shared) (Q1 : Unit → Shared → Prop), Q1 () s1 → wpAny (model P w) A (match b with | true => rule "set.scan.the-table-gave-way" | false => pure ()) Q1 E s1 := fun b s1 Q1 q => gw b q
    split
    · refine wpAny_bind ?_
      rw [hashByValue_scannable 8 hsc]
      refine wpAny_pure ?_
      refine tx_tail ?_ ho hex hd g1 p1 n1 b1 ?_ ?_ ?_ ?_
      · intro b s1 Q1 q
        cases b <;> first | exact wpAny_pure q | exact wpAny_rule q
      · first | (split <;> first | exact f1 | exact SetTable.fits_plain_off f1) | exact f1
      · first | (split <;> exact r1) | exact r1
      · first | (split <;> exact led) | exact led
      · intro h' sb r
        dsimp only
        exact wpAny_pure (fi h' sb r)
    · refine wpAny_bind (wpAny_pure ?_)
      simp only [↓reduceIte]
      refine tx_tail ?_ ho hex hd g1 p1 n1 b1 f1 r1 led ?_
      · intro b s1 Q1 q
        cases b <;> first | exact wpAny_pure q | exact wpAny_rule q
      · intro h' sb r
        dsimp only
        exact wpAny_pure (fi h' sb r)
end
/-- the texts, each where it is met first -/
def nubS (ks : List Str) : List Str := ks.foldl (fun l k => if k ∈ l then l else l ++ [k]) []
theorem nub_len : ∀ (ks l : List Str), (ks.foldl (fun l k => if k ∈ l then l else l ++ [k]) l).length ≤ l.length + ks.length
  | [], l => by simp
  | k :: ks, l => by
    rw [List.foldl_cons]
    have := nub_len ks (if k ∈ l then l else l ++ [k])
    have h2 : (if k ∈ l then l else l ++ [k]).length ≤ l.length + 1 := by
      split <;> simp
    simp
    omega
section
variable {prog : Program} {w : World} {A : Around} {R : Result → Shared → Prop} {I : Addr} {fp wr : List Addr} {G : Array GenState → Array GenState → Prop} {n : Nat} {P : Nat → Value → Prop} {St : Nat → Shared → Prop}
theorem tx_loop (W : WalksS prog w A.in1 I fp wr G n P St) (S : Addr) (hSf : S ∉ fp) (xs : List Str) (hsz : xs.length = n) (h64 : n + 1 < scanBound) (hval : ∀ i v, P i v → ∃ t, v = .str (xs.getD i Str.empty) t) :
    ∀ (k i : Nat) (s : Shared), n - i = k → i ≤ n → St i s → TxSet w s.heap S (nubS (xs.take i)) →
      (∀ s', Moved (S :: wr) G s s' → TxSet w s'.heap S (nubS xs) → R (.ok (.ret .none)) s') → codeAny (model prog w) A (.builtin "set.update.loop" ⟨[.ref S, .ref I], []⟩) R s := by
  have hSw : S ∉ wr := fun z => hSf (W.sub _ z)
  have hsub : ∀ b ∈ wr, b ∈ S :: wr := fun b z => List.mem_cons_of_mem _ z
  intro k
  induction k with
  | zero =>
    intro i s hk hi hst hS hR
    have e : i = n := by omega
    subst e
    refine codeAny_builtin PyProof.Rows.F.entry_set_update_loop ?_
    rw [Around.under_plainId PyProof.Rows.F.plain_set_update_loop _]
    show wpAny _ A.in1 (pyNext (.ref I) >>= _) _ _ s
    refine wpAny_bind (W.done s _ _ hst fun s' hm => ?_)
    show wpAny _ A.in1 (ret Value.none) _ _ s'
    refine wpAny_pure (hR s' (hm.mono hsub) ?_)
    rw [List.take_of_length_le (by omega)] at hS
    exact hS.keep fun o q => hm.heap S o hSw q
  | succ k ih =>
    intro i s hk hi hst hS hR
    have hlt : i < n := by omega
    refine codeAny_builtin PyProof.Rows.F.entry_set_update_loop ?_
    rw [Around.under_plainId PyProof.Rows.F.plain_set_update_loop _]
    show wpAny _ A.in1 (pyNext (.ref I) >>= _) _ _ s
    refine wpAny_bind (W.item i s _ _ hlt hst fun v s' hP hst' hm => ?_)
    obtain ⟨t, rfl⟩ := hval i v hP
    have hS' := hS.keep (h' := s'.heap) fun o q => hm.heap S o hSw q
    show wpAny _ A.in1 (holding [Value.str (xs.getD i Str.empty) t] (setAdd S (.str (xs.getD i Str.empty) t)) >>= _) _ _ s'
    refine wpAny_bind (wpAny_holding ?_)
    unfold setAdd
    refine wpAny_holding ?_
    refine wpAny_bind ((PySem.strKind prog w).pyHash (k := xs.getD i Str.empty) (strKind_is _ _ _ _) ?_)
    have hnl := nub_len (xs.take i) []
    have htl : (xs.take i).length ≤ n := by
      rw [List.length_take]
      omega
    refine tx_add (s := { s' with toks := s'.toks + 1 }) hS' (by unfold nubS; simp at hnl; omega) fun h' hsb hS2 => ?_
    have en : (if xs.getD i Str.empty ∈ nubS (xs.take i) then nubS (xs.take i) else nubS (xs.take i) ++ [xs.getD i Str.empty]) = nubS (xs.take (i + 1)) := by
      have hi2 : i < xs.length := by omega
      have e1 : xs.take (i + 1) = xs.take i ++ [xs.getD i Str.empty] := by
        rw [List.take_add_one, List.getElem?_eq_getElem hi2, List.getD_eq_getElem?_getD, List.getElem?_eq_getElem hi2]
        rfl
      rw [e1]
      unfold nubS
      rw [List.foldl_append]
      rfl
    rw [en] at hS2
    refine wpAny_pure ⟨plainId_quiet PyProof.Rows.F.plain_set_update_loop _, ih (i + 1) _ (by omega) hlt (W.frame _ s' _ _ hst' (Nat.le_succ _) fun b hb o e => ?_) hS2 fun s2 hm2 hSn => ?_⟩
    · exact (hsb.2 b fun z : b = S => hSf (z ▸ hb)).trans e
    · refine hR s2 (Moved.trans W.gtrans ((hm.mono hsub).then_heap (Nat.le_succ _) fun b o hb e => ?_) hm2) hSn
      exact (hsb.2 b fun z : b = S => hb (z ▸ List.mem_cons_self)).trans e
end
section
variable {P : Program} {w : World} {A : Around} {E : Value → Shared → Prop} {s : Shared}
/-- the new, empty set -/
abbrev nwS (w : World) : Obj := { cls := .type "set", dict := none, data := .set #[] 0 (.fresh 0 0 (!w.params.followText "set-order")) }
theorem tx_fresh {h : Heap} {a : Addr} (ho : h.get? a = some (nwS w)) : TxSet w h a [] :=
  ⟨_, #[], 0, _, ho, ⟨rfl, rfl, rfl⟩, rfl, (fun e he => by simp at he), by simp, List.Pairwise.nil, (by decide), (by rfl), List.Pairwise.nil, by
    show _ ∨ (!w.params.followText "set-order") = true
    cases w.params.followText "set-order"
    · exact .inr rfl
    · exact .inl rfl⟩
/-- set(xs), xs a list of texts -/
theorem call_setTx {l : Addr} {items : Array Value} {xs : List Str} {Q : Value → Shared → Prop} (hh : A.handled = none) (hl : s.heap.IsList l items) (hi : StrsAre items.toList xs) (h64 : xs.length + 1 < scanBound)
    (h : ∀ (h' : Heap) (tk : Nat), TxSet w h' s.heap.objs.size (nubS xs) → (∀ b o, s.heap.get? b = some o → h'.get? b = some o) → Q (.ref s.heap.objs.size) { s with heap := h', toks := tk }) :
    wpAny (model P w) A (call (.type "set") [.ref l]) Q E s := by
  have isz : items.size = xs.length := by rw [← StrsAre.len_eq hi, Array.length_toList]
  obtain ⟨c, tl, hmro⟩ := PySem.F.called_set.mro
  have hmade := PySem.F.called_set.made
  have hsub := PySem.F.called_set.sub
  refine wpAny_call (codeAny_of_tree ?_)
  show wpAny _ _ (callAny (.type "set") _) _ _ _
  refine wpAny_pure ⟨Code.quiet_builtin _ (by decide +kernel), codeAny_builtin PySem.F.entry_type_call ?_⟩
  rw [Around.under_plain (weight_type_call_type "set" [.ref l] []) rfl]
  have h1 := PySem.F.called_set.notType
  have h2 := PySem.F.called_set.canCreate
  have hct := PySem.F.typeCall_set_1 (.ref l)
  repeat (any_goals (first | assumption | wp_step))
  refine codeAny_mono (code_set_led1 (.ref l) (E := E) (Q₁ := fun obj s1 => obj = .ref s.heap.objs.size ∧ s1 = { s with heap := s.heap.push (nwS w) }) ⟨rfl, rfl⟩) fun r s1 hr => ?_
  cases r with
  | error e => exact hr
  | ok fl =>
    cases fl with
    | ret obj =>
      obtain ⟨rfl, rfl⟩ := hr
      have hS : (s.heap.push (nwS w)).get? s.heap.objs.size = some (nwS w) := Heap.get?_push_size _ rfl
      have hT : Shared.TypeIs { s with heap := s.heap.push (nwS w) } (.ref s.heap.objs.size) "set" := ⟨_, hS, rfl⟩
      have hli := PySem.F.called_set.init.lookup
      have hbi := PySem.F.called_set.init.bind (.ref s.heap.objs.size)
      repeat (any_goals (first | assumption | wp_step))
      refine codeAny_mono (codeAny_call_builtin (R := wants (fun r s2 => r = .none ∧ ∃ h' tk, s2 = { s with heap := h', toks := tk } ∧ TxSet w h' s.heap.objs.size (nubS xs) ∧ (∀ b o, s.heap.get? b = some o → h'.get? b = some o)) E)
        PySem.F.called_set.init.plain PySem.F.entry_set_init (check_set_init_1 hT ?_)) fun r2 s2 hr2 => ?_
      · obtain ⟨ol, hol, hcl, nl, hdl⟩ := hl
        obtain ⟨oc, od, ot, osl⟩ := ol
        simp only at hcl hdl
        subst hcl; subst hdl
        have hol' : (s.heap.push (nwS w)).get? l = some { cls := .type "list", dict := od, data := .seq items nl, slots := osl } := Heap.get?_push_of_some _ hol
        have hsls := PySem.F.sub_list_set
        have hslf := PySem.F.sub_list_frozenset
        have hne : (Value.type "list" == Value.type "dict") = false := by decide
        have hl1 : (s.heap.push (nwS w)).IsList l items := ⟨_, hol', rfl, nl, rfl⟩
        unfold Builtin.«set.__init__» noKeywords Builtin.Frozenset.updateFrom
        generalize hPI : pyIter = PI
        wp_walk
        subst hPI
        refine wpAny_pyIter_list hl1 ?_
        refine wpAny_bind (wpAny_runValue ?_)
        have lS : l < s.heap.objs.size := Heap.lt_size hol
        have hh3 : A.in1.in1.in1.handled = none := by simp [hh]
        have z1 : (s.heap.push (nwS w)).objs.size = s.heap.objs.size + 1 := Heap.size_push ..
        have nI : l ≠ (s.heap.push (nwS w)).objs.size := by
          rw [z1]
          exact Nat.ne_of_lt (Nat.lt_succ_of_lt lS)
        have hSf : s.heap.objs.size ∉ [(s.heap.push (nwS w)).objs.size, l] := by
          rw [z1]
          simp only [List.mem_cons, List.not_mem_nil, or_false, not_or]
          exact ⟨Nat.ne_of_lt (Nat.lt_succ_self _), Nat.ne_of_gt lS⟩
        have hval : ∀ (i : Nat) (v : Value), items[i]? = some v → ∃ t, v = .str (xs.getD i Str.empty) t := fun i v hv => SS.strs_at hi i v (by rw [Array.getElem?_toList]; exact hv)
        refine tx_loop ((Walks.list hh3 _ l nI items).toS) s.heap.objs.size hSf xs isz.symm (by rw [isz]; exact h64) hval (items.size - 0) 0 _ (by omega) (Nat.zero_le _)
          ⟨⟨_, Heap.get?_push_size _ rfl, rfl, rfl⟩, (hl1.push _)⟩ ?hS0 ?hR
        case hS0 =>
          have hg : ((s.heap.push (nwS w)).push { cls := .type "list_iterator", data := .fields #[.ref l, .int 0 0] }).get? s.heap.objs.size = some (nwS w) := Heap.get?_push_of_some _ hS
          exact tx_fresh hg
        case hR =>
          intro s' hm hS'
          obtain ⟨h', g', d', tk', os'⟩ := s'
          have eg : g' = s.gens := hm.gens
          have ed : d' = s.drawn := hm.drawn
          have eo : os' = s.os := hm.os
          subst eg; subst ed; subst eo
          show wpAny _ _ _ _ _ _
          refine wpAny_pure ?_
          show wpAny _ _ (ret Value.none) _ _ _
          refine wpAny_pure ⟨rfl, h', tk', rfl, hS', fun b o e => ?_⟩
          have hb : b < s.heap.objs.size := Heap.lt_size e
          exact hm.heap b o (by
            rw [z1]
            simp only [List.mem_cons, List.not_mem_nil, or_false, not_or]
            exact ⟨Nat.ne_of_lt hb, Nat.ne_of_lt (Nat.lt_succ_of_lt hb)⟩) (Heap.get?_push_of_some _ (Heap.get?_push_of_some _ e))
      · cases r2 with
        | error e => exact hr2
        | ok fl2 =>
          cases fl2 with
          | ret r =>
            obtain ⟨rfl, h', tk, rfl, hS', hk'⟩ := hr2
            repeat (any_goals (first | assumption | wp_step))
            exact h _ _ hS' hk'
          | _ => exact hr2.elim
    | _ => exact hr.elim
/-- len of it -/
theorem call_lenTx {a : Addr} {ks : List Str} {Q : Value → Shared → Prop} (x : TxSet w s.heap a ks) (h : Q (.int ks.length (s.toks + 1)) { s with toks := s.toks + 1 + 1 }) : wpAny (model P w) A (call (.builtin "len") [.ref a]) Q E s := by
  obtain ⟨o, es, ep, t, ho, hex, hd, _, pk, _, hb, hf, _⟩ := x
  have hn : es.size = ks.length := by rw [← Array.length_toList, ← pk.length_eq, List.length_map]
  refine call_len_set ho hex hd hf (by unfold scanBound at hb; omega) ?_
  rw [hn]
  exact h
theorem strs_ofE : ∀ (l : List Value), (∀ v ∈ l, ∃ k u, v = Value.str k u) → ∃ ys, StrsAre l ys
  | [], _ => ⟨[], .nil⟩
  | v :: l, h => by
    obtain ⟨k, u, rfl⟩ := h v List.mem_cons_self
    obtain ⟨ys, h2⟩ := strs_ofE l fun z hz => h z (List.mem_cons_of_mem _ hz)
    exact ⟨k :: ys, .cons k u h2⟩
theorem strs_map_tof {l : List Value} {ys : List Str} (h : StrsAre l ys) : l.map (fun v => tOfE (0, v)) = ys := by
  induction h with
  | nil => rfl
  | cons k u _ ih => rw [List.map_cons, ih]; rfl
/-- sorted of it -/
theorem sorted_setTx {a : Addr} {ks : List Str} {Q : Value → Shared → Prop} (x : TxSet w s.heap a ks) (hh : A.handled = none)
    (hQ : ∀ s' p (out : Array Value) (c : Nat) (ys : List Str), (∀ b o, s.heap.get? b = some o → s'.heap.get? b = some o) → s'.gens = s.gens → s'.os = s.os → s.heap.objs.size ≤ p →
      s'.heap.get? p = some (seqObj "list" out c) → StrsAre out.toList ys → ys.Perm ks → sortedS ys = true → Q (.ref p) s') :
    wpAny (model P w) A (call (.builtin "sorted") [.ref a]) Q E s := by
  obtain ⟨o, es, ep, t, ho, hex, hd, g, pk, nd, hb, hf, hr, hl⟩ := x
  have hn : es.size = ks.length := by rw [← Array.length_toList, ← pk.length_eq, List.length_map]
  refine Calls.call_function_entry kind_sorted plain_sorted entry_sorted (args_sorted1 _) ?_
  unfold Builtin.«sorted»
  refine wpAny_bind (m := checkCount "sorted" 1 1 _) (wpAny_pure ?_)
  refine wpAny_bind (collect_set (A := A.in1) hh ⟨o, ho, hex.1, hd⟩ hf hb hr hl fun s1 vs k1 hz g1 o1 pm => ?_)
  have hvl : vs.length = es.size := by rw [pm.length_eq, List.length_map, Array.length_toList]
  have hvz : vs.length ≤ sizeLine := by
    rw [hvl]
    exact fits_of_scanBound hb
  obtain ⟨zs, hI⟩ := strs_ofE vs fun v hv => by
    obtain ⟨e, he, q⟩ := List.mem_map.mp (pm.mem_iff.mp hv)
    obtain ⟨k, u, q1, _⟩ := g e he
    exact ⟨k, u, q ▸ q1⟩
  have pz : zs.Perm ks := by
    rw [← strs_map_tof hI]
    have q := pm.map fun v => tOfE (0, v)
    rw [List.map_map] at q
    exact q.trans pk
  refine wpAny_bind (wpAny_newList ?_ hvz)
  have hoL : (s1.heap.push (seqObj "list" vs.toArray 0)).get? s1.heap.objs.size = some (seqObj "list" vs.toArray 0) := Heap.get?_push_size _ rfl
  refine wpAny_bind (wpAny_holding (wpAny_call_entry slot_list_sort ⟨_, hoL, rfl⟩ entry_list_sort (list_sort_treeKAny strKind_oneLt hoL hI.keysOf (fun v1 v2 rest e => keyKind_strs (by rw [← e]; exact hI)) hvz fun st' hp hs => ⟨_, rfl, ?_⟩) (args_list_sort _)))
  obtain ⟨ys, a1, a2, a3⟩ := sorted_out_str hI hp hs
  obtain ⟨c, hc⟩ := sortedHeap_at (vs := vs) (out := (arrOf st').map (·.2)) hoL
  refine wpAny_pure ⟨_, rfl, hQ _ s1.heap.objs.size _ c ys (fun b u e => ?_) g1 o1 hz hc a1 (a2.trans pz) a3⟩
  have q := k1 b u e
  have hlt := Heap.lt_size q
  show (sortedHeap (s1.heap.push (seqObj "list" vs.toArray 0)) s1.heap.objs.size vs _).get? b = some u
  rw [sortedHeap_old (Nat.ne_of_lt hlt) (by rw [size_push']; exact Nat.lt_succ_of_lt hlt)]
  exact Heap.get?_push_of_some _ q
end
end PV

/-! PV18: sorted, min and max of texts, numbers and tuples; sets of texts in an expression. -/
namespace PV
open PySem PySem.Spec L2
/-! ### data that may be put in order -/
mutual
def toPD : Dat → Option PyData
  | .non => some .none
  | .bl b => some (.bool b)
  | .int i => some (.int i)
  | .str x => some (.str (mkS x))
  | .tup xs => (toPDs xs).map .tuple
  | .lst xs => (toPDs xs).map .list
  | _ => none
def toPDs : List Dat → Option (List PyData)
  | [] => some []
  | d :: ds => match toPD d, toPDs ds with
    | some p, some ps => some (p :: ps)
    | _, _ => none
end
theorem toPDs_cons {d : Dat} {ds : List Dat} {ps : List PyData} (h : toPDs (d :: ds) = some ps) : ∃ p qs, toPD d = some p ∧ toPDs ds = some qs ∧ ps = p :: qs := by
  simp only [toPDs] at h
  cases e : toPD d with
  | none => simp only [e] at h; cases h
  | some p =>
    cases e2 : toPDs ds with
    | none => simp only [e, e2] at h; cases h
    | some qs =>
      simp only [e, e2] at h
      injection h with h
      exact ⟨p, qs, rfl, rfl, h.symm⟩
section
variable {X : Cx} {pins : List (Addr × Obj)} {σ : L2.St} {H : Hp} {s : Shared}
mutual
theorem Rep.reads (I : Inv X pins σ H s) : ∀ (d : Dat) (v : V) (fp : List Addr) (u : Value) (p : PyData), Rep (glo X) H d v fp → RelV v u → toPD d = some p → ∃ as, Reads s.heap u p as
  | .non, v, fp, u, p, r, rv, h => by
    simp only [Rep] at r
    simp only [toPD] at h
    cases h
    obtain ⟨rfl, _⟩ := r
    cases (show u = Value.none from rv)
    exact ⟨_, .none⟩
  | .bl b, v, fp, u, p, r, rv, h => by
    simp only [Rep] at r
    simp only [toPD] at h
    cases h
    obtain ⟨rfl, _⟩ := r
    cases (show u = Value.bool b from rv)
    exact ⟨_, .bool b⟩
  | .int i, v, fp, u, p, r, rv, h => by
    simp only [Rep] at r
    simp only [toPD] at h
    cases h
    obtain ⟨rfl, _⟩ := r
    obtain ⟨t, rfl⟩ := (show ∃ t, u = Value.int i t from rv)
    exact ⟨_, .int i t⟩
  | .str x, v, fp, u, p, r, rv, h => by
    simp only [Rep] at r
    simp only [toPD] at h
    cases h
    obtain ⟨rfl, _⟩ := r
    obtain ⟨t, rfl⟩ := (show ∃ t, u = Value.str (mkS x) t from rv)
    exact ⟨_, .str _ t⟩
  | .tup xs, v, fp, u, p, r, rv, h => by
    simp only [Rep] at r
    simp only [toPD] at h
    obtain ⟨a, vs, rfl, q, rl⟩ := r
    cases (show u = Value.ref a from rv)
    cases e : toPDs xs with
    | none => rw [e] at h; cases h
    | some ps =>
      rw [e] at h
      cases h
      obtain ⟨its, rr, ⟨o, ho, hc, n, hd⟩, _⟩ := I.tuple q
      obtain ⟨as, ra⟩ := RepL.reads I xs vs fp its ps rl rr e
      exact ⟨as, .tuple ho hc hd (by simpa using ra)⟩
  | .lst xs, v, fp, u, p, r, rv, h => by
    simp only [Rep] at r
    simp only [toPD] at h
    obtain ⟨a, vs, f, rfl, q, rl, _⟩ := r
    cases (show u = Value.ref a from rv)
    cases e : toPDs xs with
    | none => rw [e] at h; cases h
    | some ps =>
      rw [e] at h
      cases h
      obtain ⟨its, rr, pl, _⟩ := I.list (.inl (.inl q))
      obtain ⟨as, ra⟩ := RepL.reads I xs vs f its ps rl rr e
      obtain ⟨o, ho, hc, n, hd⟩ := pl.isList
      exact ⟨_, .list ho hc hd (by simpa using ra)⟩
  | .rol xs, _, _, _, _, _, _, h => by
    simp only [toPD] at h
    cases h
  | .dic _ _, _, _, _, _, _, _, h => by
    simp only [toPD] at h
    cases h
  | .ins _ _ _, _, _, _, _, _, _, h => by
    simp only [toPD] at h
    cases h
  | .fn _, _, _, _, _, _, _, h => by
    simp only [toPD] at h
    cases h
theorem RepL.reads (I : Inv X pins σ H s) : ∀ (ds : List Dat) (vs : List V) (fp : List Addr) (us : List Value) (ps : List PyData), RepL (glo X) H ds vs fp → Vals vs us → toPDs ds = some ps → ∃ as, ReadsAll s.heap us ps as
  | [], vs, fp, us, ps, r, rv, h => by
    simp only [RepL] at r
    simp only [toPDs] at h
    cases h
    obtain ⟨rfl, _⟩ := r
    cases rv
    exact ⟨_, .nil⟩
  | d :: ds, vs, fp, us, ps, r, rv, h => by
    simp only [RepL] at r
    obtain ⟨v, vs', f, f', rfl, rfl, r1, r2⟩ := r
    obtain ⟨p, qs, e1, e2, rfl⟩ := toPDs_cons h
    cases rv with
    | cons rh rt =>
      obtain ⟨a1, h1⟩ := Rep.reads I d v f _ p r1 rh e1
      obtain ⟨a2, h2⟩ := RepL.reads I ds vs' f' _ qs r2 rt e2
      exact ⟨_, .cons h1 h2⟩
end
end
/-! ### the order -/
abbrev Tk := Int ⊕ List Nat
def keyD (d : Dat) : List Tk := match toPD d with
  | some p => PySem.W.keyToks p
  | none => []
def ltK (x y : Dat) : Bool := PyProof.Rows.lexLt PyProof.Rows.itemOrd (keyD x) (keyD y)
def insK (y : Dat) : List Dat → List Dat
  | [] => [y]
  | x :: l => if ltK y x then y :: x :: l else x :: insK y l
def sortK (ds : List Dat) : List Dat := ds.foldl (fun l y => insK y l) []
theorem insK_perm (y : Dat) : ∀ l : List Dat, (insK y l).Perm (l ++ [y])
  | [] => List.Perm.refl _
  | x :: l => by
    unfold insK
    split
    · exact (List.perm_append_singleton y (x :: l)).symm
    · exact (insK_perm y l).cons x
theorem fold_perm : ∀ (ds l : List Dat), (ds.foldl (fun l y => insK y l) l).Perm (l ++ ds)
  | [], l => by simp
  | d :: ds, l => by
    rw [List.foldl_cons]
    refine (fold_perm ds _).trans ?_
    have := (insK_perm d l).append_right ds
    simpa using this
theorem sortK_perm (ds : List Dat) : (sortK ds).Perm ds := fold_perm ds []
abbrev Upw (l : List Dat) : Prop := l.Pairwise fun x y => ltK y x = false
theorem ltK_asym {x y : Dat} (h : ltK x y = true) : ltK y x = false := by
  cases e : ltK y x with
  | false => rfl
  | true =>
    have := PyProof.Rows.lex_trans (O := PyProof.Rows.itemOrd) _ _ _ h e
    rw [PyProof.Rows.lex_irrefl] at this
    cases this
theorem ltK_tr {x y z : Dat} (h1 : ltK y x = false) (h2 : ltK z y = false) : ltK z x = false := by
  cases e : ltK z x with
  | false => rfl
  | true =>
    rcases PyProof.Rows.lex_negTrans (O := PyProof.Rows.itemOrd) _ (keyD y) _ e with q | q
    · exact absurd (q.symm.trans h2) (by decide)
    · exact absurd (q.symm.trans h1) (by decide)
theorem insK_up (y : Dat) : ∀ {l : List Dat}, Upw l → Upw (insK y l)
  | [], _ => List.pairwise_singleton _ _
  | x :: l, h => by
    obtain ⟨h1, h2⟩ := List.pairwise_cons.mp h
    unfold insK
    split
    · rename_i hlt
      refine List.pairwise_cons.mpr ⟨fun z hz => ?_, h⟩
      rcases List.mem_cons.mp hz with rfl | hz
      · exact ltK_asym hlt
      · exact ltK_tr (ltK_asym hlt) (h1 z hz)
    · rename_i hlt
      refine List.pairwise_cons.mpr ⟨fun z hz => ?_, insK_up y h2⟩
      rcases List.mem_append.mp ((insK_perm y l).mem_iff.mp hz) with q | q
      · exact h1 z q
      · rw [List.mem_singleton.mp q]
        simpa using hlt
theorem fold_up : ∀ (ds l : List Dat), Upw l → Upw (ds.foldl (fun l y => insK y l) l)
  | [], _, h => h
  | d :: ds, l, h => by
    rw [List.foldl_cons]
    exact fold_up ds _ (insK_up d h)
theorem sortK_up (ds : List Dat) : Upw (sortK ds) := fold_up ds [] List.Pairwise.nil
theorem up_uniq : ∀ {l m : List Dat}, Upw l → Upw m → l.Perm m → (∀ x ∈ l, ∀ y ∈ l, keyD x = keyD y → x = y) → l = m
  | [], m, _, _, p, _ => (List.Perm.eq_nil p.symm).symm
  | x :: l, [], _, _, p, _ => absurd p.length_eq (by simp)
  | x :: l, y :: m, hl, hm, p, u => by
    obtain ⟨h1, h2⟩ := List.pairwise_cons.mp hl
    obtain ⟨h3, h4⟩ := List.pairwise_cons.mp hm
    have hy : y ∈ x :: l := p.mem_iff.mpr List.mem_cons_self
    have hx : x ∈ y :: m := p.mem_iff.mp List.mem_cons_self
    have e : x = y := by
      rcases List.mem_cons.mp hy with q | hy'
      · exact q.symm
      · rcases List.mem_cons.mp hx with q | hx'
        · exact q
        · exact u x List.mem_cons_self y hy (PyProof.Rows.lex_total (O := PyProof.Rows.itemOrd) _ _ (h3 x hx') (h1 y hy'))
    subst e
    rw [up_uniq h2 h4 p.cons_inv fun a ha b hb => u a (List.mem_cons_of_mem _ ha) b (List.mem_cons_of_mem _ hb)]
/-! ### what may be sorted -/
def isStrD : Dat → Bool
  | .str _ => true
  | _ => false
def isTupD : Dat → Bool
  | .tup (_ :: _) => true
  | _ => false
def sortOk (ds : List Dat) : Bool := match toPDs ds with
  | none => false
  | some ps => (ds.all isStrD || (ds.all isTupD && decide ((ds.map keyD).Nodup) && ps.all fun p => ps.all fun q => PySem.W.alike p q)) && decide (PyData.depthAll ps ≤ 20) && decide (ds.length ≤ 1000000)
def gSorted (r : Rs) : Res Rs := match r.d with
  | .lst xs => if sortOk xs then .ok (rNewL (sortK xs) r.src) else .no
  | .rol xs => if sortOk xs then .ok (rNewL (sortK xs) r.src) else .no
  | _ => .no
/-! ### sorted(xs) -/
abbrev Bt := Dat × V × List Addr
def encB (b : Bt) : PyData := (toPD b.1).getD .none
theorem depth_in : ∀ {ps : List PyData} {p : PyData}, p ∈ ps → p.depth ≤ PyData.depthAll ps
  | q :: ps, p, h => by
    show p.depth ≤ max q.depth (PyData.depthAll ps)
    rcases List.mem_cons.mp h with rfl | h
    · exact Nat.le_max_left _ _
    · exact Nat.le_trans (depth_in h) (Nat.le_max_right _ _)
section
variable {X : Cx} {pins : List (Addr × Obj)} {σ : L2.St} {H : Hp} {s : Shared}
theorem bts_of (I : Inv X pins σ H s) : ∀ {ds : List Dat} {ws : List V} {fp : List Addr} {us : List Value} {ps : List PyData}, RepL (glo X) H ds ws fp → Vals ws us → toPDs ds = some ps →
    ∃ bs : List Bt, bs.map (·.1) = ds ∧ bs.map encB = ps ∧ (∀ b ∈ bs, Rep (glo X) H b.1 b.2.1 b.2.2 ∧ ∀ a ∈ b.2.2, a ∈ fp) ∧ PySem.W.EachIs (fun u (b : Bt) => RelV b.2.1 u) us bs ∧ PySem.W.EachIs (fun u (b : Bt) => ∃ as, Reads s.heap u (encB b) as) us bs
  | [], ws, fp, us, ps, r, rv, h => by
    simp only [RepL] at r
    simp only [toPDs] at h
    cases h
    obtain ⟨rfl, _⟩ := r
    cases rv
    exact ⟨[], rfl, rfl, (fun _ z => nomatch z), .nil, .nil⟩
  | d :: ds, ws, fp, us, ps, r, rv, h => by
    simp only [RepL] at r
    obtain ⟨v, ws', f, f', rfl, rfl, r1, r2⟩ := r
    obtain ⟨p, qs, e1, e2, rfl⟩ := toPDs_cons h
    cases rv with
    | cons rh rt =>
      obtain ⟨bs, b1, b2, b3, b4, b5⟩ := bts_of I r2 rt e2
      obtain ⟨as, ra⟩ := Rep.reads I d v f _ p r1 rh e1
      have ee : encB (d, v, f) = p := by
        unfold encB
        rw [e1]
        rfl
      refine ⟨(d, v, f) :: bs, by rw [List.map_cons, b1], by rw [List.map_cons, b2, ee], fun b hb => ?_, .cons rh b4, .cons ⟨as, by rw [ee]; exact ra⟩ b5⟩
      rcases List.mem_cons.mp hb with rfl | hb
      · exact ⟨r1, fun a ha => List.mem_append_left _ ha⟩
      · exact ⟨(b3 b hb).1, fun a ha => List.mem_append_right _ ((b3 b hb).2 a ha)⟩
theorem reps_of {G : Glo} {fp : List Addr} : ∀ {bs : List Bt}, (∀ b ∈ bs, Rep G H b.1 b.2.1 b.2.2 ∧ ∀ a ∈ b.2.2, a ∈ fp) → ∃ f, RepL G H (bs.map (·.1)) (bs.map (·.2.1)) f ∧ ∀ a ∈ f, a ∈ fp
  | [], _ => ⟨[], .nil, (fun _ z => nomatch z)⟩
  | b :: bs, h => by
    obtain ⟨f, r, hf⟩ := reps_of (bs := bs) fun c hc => h c (List.mem_cons_of_mem _ hc)
    obtain ⟨r1, h1⟩ := h b List.mem_cons_self
    refine ⟨b.2.2 ++ f, RepL.cons r1 r, fun a ha => ?_⟩
    rcases List.mem_append.mp ha with q | q
    · exact h1 a q
    · exact hf a q
theorem vals_of_each : ∀ {us : List Value} {bs : List Bt}, PySem.W.EachIs (fun u (b : Bt) => RelV b.2.1 u) us bs → Vals (bs.map (·.2.1)) us
  | _, _, .nil => .nil
  | _, _, .cons h t => .cons h (vals_of_each t)
theorem toPDs_mem : ∀ {ds : List Dat} {ps : List PyData}, toPDs ds = some ps → ∀ d ∈ ds, ∃ p ∈ ps, toPD d = some p
  | d :: ds, ps, h, x, hx => by
    obtain ⟨p, qs, e1, e2, rfl⟩ := toPDs_cons h
    rcases List.mem_cons.mp hx with rfl | hx
    · exact ⟨p, List.mem_cons_self, e1⟩
    · obtain ⟨q, hq, e⟩ := toPDs_mem e2 x hx
      exact ⟨q, List.mem_cons_of_mem _ hq, e⟩
theorem toPDs_back : ∀ {ds : List Dat} {ps : List PyData}, toPDs ds = some ps → ∀ p ∈ ps, ∃ d ∈ ds, toPD d = some p
  | [], ps, h, p, hp => by
    simp only [toPDs] at h
    cases h
    cases hp
  | d :: ds, ps, h, p, hp => by
    obtain ⟨q, qs, e1, e2, rfl⟩ := toPDs_cons h
    rcases List.mem_cons.mp hp with rfl | hp
    · exact ⟨d, List.mem_cons_self, e1⟩
    · obtain ⟨x, hx, e⟩ := toPDs_back e2 p hp
      exact ⟨x, List.mem_cons_of_mem _ hx, e⟩
structure SortC (ds : List Dat) (ps : List PyData) : Prop where
  e : toPDs ds = some ps
  al : PySem.W.AllAlike ps
  so : PySem.W.Sortable ps
  un : ∀ x ∈ ds, ∀ y ∈ ds, keyD x = keyD y → x = y
  dp : PyData.depthAll ps ≤ 20
  ln : ds.length ≤ 1000000
theorem map_inj_nodup {α β : Type} {f : α → β} : ∀ {l : List α}, (l.map f).Nodup → ∀ x ∈ l, ∀ y ∈ l, f x = f y → x = y
  | a :: l, h, x, hx, y, hy, e => by
    rw [List.map_cons] at h
    obtain ⟨h1, h2⟩ := List.nodup_cons.mp h
    rcases List.mem_cons.mp hx with rfl | hx' <;> rcases List.mem_cons.mp hy with rfl | hy'
    · rfl
    · exact absurd (List.mem_map.mpr ⟨y, hy', e.symm⟩) h1
    · exact absurd (List.mem_map.mpr ⟨x, hx', e⟩) h1
    · exact map_inj_nodup h2 x hx' y hy' e
theorem strD_of {d : Dat} (h : isStrD d = true) : ∃ x, d = .str x := by
  cases d <;> first | exact ⟨_, rfl⟩ | cases h
theorem tupD_of {d : Dat} (h : isTupD d = true) : ∃ x r, d = .tup (x :: r) := by
  cases d <;> first | (rename_i l; cases l <;> first | exact ⟨_, _, rfl⟩ | cases h) | cases h
theorem sortC_of {ds : List Dat} (h : sortOk ds = true) : ∃ ps, SortC ds ps := by
  unfold sortOk at h
  cases e : toPDs ds with
  | none =>
    rw [e] at h
    cases h
  | some ps =>
    rw [e] at h
    simp only [Bool.and_eq_true, Bool.or_eq_true, decide_eq_true_eq] at h
    obtain ⟨⟨h1, h2⟩, h3⟩ := h
    refine ⟨ps, ?_⟩
    rcases h1 with h1 | ⟨⟨h4, h5⟩, h6⟩
    · have st : ∀ p ∈ ps, ∃ x, p = .str (mkS x) := fun p hp => by
        obtain ⟨d, hd, ed⟩ := toPDs_back e p hp
        obtain ⟨x, rfl⟩ := strD_of (List.all_eq_true.mp h1 d hd)
        simp only [toPD] at ed
        injection ed with ed
        exact ⟨x, ed.symm⟩
      refine ⟨e, fun p hp q hq => ?_, .inr fun p hp => ?_, fun x hx y hy ek => ?_, h2, h3⟩
      · obtain ⟨x, rfl⟩ := st p hp
        obtain ⟨y, rfl⟩ := st q hq
        simp [PySem.W.alike]
      · obtain ⟨x, rfl⟩ := st p hp
        exact ⟨(fun z => nomatch z), (fun _ z => nomatch z)⟩
      · obtain ⟨a, rfl⟩ := strD_of (List.all_eq_true.mp h1 x hx)
        obtain ⟨b, rfl⟩ := strD_of (List.all_eq_true.mp h1 y hy)
        have : ([.inr a] : List Tk) = [.inr b] := by simpa [keyD, toPD, PySem.W.keyToks, mkS] using ek
        simpa using this
    · refine ⟨e, fun p hp q hq => ?_, .inl fun p hp => ?_, map_inj_nodup h5, h2, h3⟩
      · exact List.all_eq_true.mp (List.all_eq_true.mp h6 p hp) q hq
      · obtain ⟨d, hd, ed⟩ := toPDs_back e p hp
        obtain ⟨x, r, rfl⟩ := tupD_of (List.all_eq_true.mp h4 d hd)
        simp only [toPD] at ed
        cases e2 : toPDs (x :: r) with
        | none => rw [e2] at ed; cases ed
        | some qs =>
          obtain ⟨y, ys, _, _, rfl⟩ := toPDs_cons e2
          rw [e2] at ed
          injection ed with ed
          exact ⟨y, ys, ed.symm⟩
end
section
variable {X : Cx} {W : WX} {k : Nat}
def rSortD (X : Cx) : List V → Hp → VK → Prop := fun vs H Q => ∃ (a : Addr) (ds : List Dat) (ws : List V) (fp : List Addr), vs = [V.ref a] ∧ SqL X.K H a ws ∧ RepL (glo X) H ds ws fp ∧ sortOk ds = true ∧
  ∀ ws' p f, RepL (glo X) H (sortK ds) ws' f → (∀ b ∈ f, b ∈ fp) → H p = none → Q (.ref p) (upd H p (.lst ws'))
theorem keyB {b : Bt} {p : PyData} (h : toPD b.1 = some p) : PySem.W.keyToks (encB b) = keyD b.1 := by
  unfold encB keyD
  rw [h]
  rfl
theorem cr_sortD (C : XOk k X) : CallR X (.builtin "sorted") (rSortD X) := by
  intro pins s σ H vs us Q I r h
  obtain ⟨a, ds, ws, fp, rfl, hs, rl, ok, q⟩ := h
  obtain ⟨ps, sc⟩ := sortC_of ok
  obtain ⟨its, rv, pl, _⟩ := I.list hs
  rw [Vals.ref1 r]
  obtain ⟨bs, b1, b2, b3, b4, b5⟩ := bts_of I rl rv sc.e
  have hu := C.u64
  have hbl : bs.length = ds.length := by rw [← b1, List.length_map]
  have hz : sizeLine = 16777216 := by decide
  have hln := sc.ln
  refine PySem.W.sorted_data (β := Bt) (enc := encB) (bs := bs) (R := fun u (b : Bt) => RelV b.2.1 u) (vs := its) pl.isList b4 b5 (by rw [b2]; exact sc.al) (by rw [b2]; exact sc.so) (by omega) (fun b hb => ?_) fun out ol oe => ?_
  · have h1 := depth_in (ps := ps) (p := encB b) (by rw [← b2]; exact List.mem_map.mpr ⟨b, hb, rfl⟩)
    have h2 := sc.dp
    show X.A.units + 2 + (encB b).depth < cLine
    omega
  · generalize hbs : bs.mergeSort (PySem.W.dataLe false encB) = cs at oe
    have pm : cs.Perm bs := by
      rw [← hbs]
      exact List.mergeSort_perm bs _
    have hk : ∀ b ∈ bs, PySem.W.keyToks (encB b) = keyD b.1 := fun b hb => by
      obtain ⟨p, _, e⟩ := toPDs_mem sc.e b.1 (by rw [← b1]; exact List.mem_map.mpr ⟨b, hb, rfl⟩)
      exact keyB e
    have le_eq : ∀ x y : Bt, PySem.W.dataLe false encB x y = !PySem.W.dataLt (encB y) (encB x) := fun x y => rfl
    have srt : cs.Pairwise fun x y => PySem.W.dataLe false encB x y = true := by
      rw [← hbs]
      refine List.pairwise_mergeSort (le := PySem.W.dataLe false encB) (fun x y z h1 h2 => ?_) (fun x y => ?_) bs
      · rw [le_eq] at h1 h2 ⊢
        cases e : PySem.W.dataLt (encB z) (encB x) with
        | false => rfl
        | true =>
          rcases PyProof.Rows.lex_negTrans (O := PyProof.Rows.itemOrd) _ (PySem.W.keyToks (encB y)) _ e with q1 | q1
          · have q2 : PySem.W.dataLt (encB z) (encB y) = true := q1
            rw [q2] at h2
            cases h2
          · have q2 : PySem.W.dataLt (encB y) (encB x) = true := q1
            rw [q2] at h1
            cases h1
      · rw [le_eq, le_eq]
        cases e : PySem.W.dataLt (encB y) (encB x) with
        | false => rfl
        | true =>
          have e2 : PySem.W.dataLt (encB x) (encB y) = false := by
            cases e3 : PySem.W.dataLt (encB x) (encB y) with
            | false => rfl
            | true =>
              have := PyProof.Rows.lex_trans (O := PyProof.Rows.itemOrd) _ _ _ e e3
              rw [PyProof.Rows.lex_irrefl] at this
              cases this
          rw [e2]
          rfl
    have up : Upw (cs.map (·.1)) := by
      refine List.pairwise_map.mpr (List.Pairwise.imp_of_mem (fun {x y} hx hy h1 => ?_) srt)
      rw [le_eq] at h1
      show PyProof.Rows.lexLt PyProof.Rows.itemOrd (keyD y.1) (keyD x.1) = false
      rw [← hk y (pm.mem_iff.mp hy), ← hk x (pm.mem_iff.mp hx)]
      simpa [PySem.W.dataLt] using h1
    have pd : (cs.map (·.1)).Perm ds := by
      rw [← b1]
      exact pm.map _
    have ed : cs.map (·.1) = sortK ds := up_uniq up (sortK_up ds) (pd.trans (sortK_perm ds).symm) fun x hx y hy => sc.un x (pd.mem_iff.mp hx) y (pd.mem_iff.mp hy)
    obtain ⟨f, rf, hf⟩ := reps_of (G := glo X) (H := H) (fp := fp) (bs := cs) fun b hb => b3 b (pm.mem_iff.mp hb)
    rw [ed] at rf
    obtain ⟨ep, he⟩ := PyProof.Rows.sortedAll_at s.heap its out.toArray
    have hlen : (cs.map (·.2.1)).length ≤ sizeLine := by
      rw [List.length_map, pm.length_eq, hbl]
      omega
    exact ⟨.ref _, upd H (s.heap.objs.size + 1) (.lst (cs.map (·.2.1))), I.laid (t' := s.toks) (fun _ _ => PyProof.Rows.sortedAll_old) (Nat.le_succ _) ⟨hlen, out, ep, vals_of_each oe, he⟩, rfl, q _ _ f rf hf (I.hok.fresh (Nat.le_succ _))⟩
theorem fns_sorted : FnS X (rSortD X) gSorted := by
  intro W H0 H F σ ra x fa Q s0 tr g o
  have p := g.rep
  have fin : ∀ (xs : List Dat) (a : Addr) (ws : List V) (f' : List Addr), x = .ref a → SqL X.K H a ws → RepL (glo X) H xs ws f' → (∀ b ∈ f', b ∈ fa) → Out X W H0 H F σ (if sortOk xs then .ok (rNewL (sortK xs) ra.src) else .no) Q → rSortD X [x] H Q := by
    intro xs a ws f' ex hv rr hz o2
    by_cases h : sortOk xs = true
    · rw [if_pos h] at o2
      subst ex
      refine ⟨a, xs, ws, f', rfl, hv, rr, h, fun ws' p f rf hf hp => ?_⟩
      refine o2 _ _ _ (same_new hp) (Gv.newL s0 rf hp fun b hb => ?_)
      exact g.prv.src b (hz b (hf b hb))
    · rw [if_neg h] at o2
      exact o2.elim
  unfold gSorted at o
  cases ed : ra.d <;> simp only [ed] at o <;> first | exact o.elim | skip
  · rename_i xs
    rw [ed] at p
    simp only [Rep] at p
    obtain ⟨a, vs, f, e1, h1, r1, e2⟩ := p
    exact fin xs a vs f e1 (.inl (.inl h1)) r1 (fun b hb => by rw [e2]; exact List.mem_cons_of_mem _ hb) o
  · rename_i xs
    rw [ed] at p
    simp only [Rep] at p
    obtain ⟨a, vs, e1, h1, r1⟩ := p
    refine fin xs a vs fa e1 ?_ r1 (fun _ hb => hb) o
    rcases h1 with ⟨ob, h1⟩ | h1
    · exact .inl (.inr ⟨ob, h1⟩)
    · exact .inr h1
theorem ev_sorted (C : XOk k X) {p pos : Pos} {e : Expr} {f : Sto → Res Rs} (hm : X.mg "sorted" = none) (he : Ev X W e f) (hgl : Gl X "sorted" := by rfl) (hs : starEach [e] X.env = (false, eval e X.env) :: starEach [] X.env := by rfl) : Ev X W (.Call (.Name "sorted" p) [e] [] pos) (fOne gSorted f) :=
  ev_fn1 (cr_sortD C) fns_sorted hgl hm (by decide +kernel) he (by decide) (by decide) hs
/-! ### min(xs), max(xs) -/
def minK (x : Dat) (xs : List Dat) : Dat := xs.foldl (fun a y => if ltK y a then y else a) x
def maxK (x : Dat) (xs : List Dat) : Dat := xs.foldl (fun a y => if ltK a y then y else a) x
def isIntD : Dat → Bool
  | .int _ => true
  | _ => false
/-- texts, numbers or tuples, to be compared -/
def cmpOk (ds : List Dat) : Bool := match toPDs ds with
  | none => false
  | some ps => (ds.all isStrD || ds.all isIntD || (ds.all isTupD && ps.all fun p => ps.all fun q => PySem.W.alike p q)) && decide (PyData.depthAll ps ≤ 20) && decide (ds.length ≤ 1000000) && flatL ds
def gMin (r : Rs) : Res Rs := match r.d with
  | .lst (x :: xs) => if cmpOk (x :: xs) then .ok (rsF (minK x xs)) else .no
  | _ => .no
def gMax (r : Rs) : Res Rs := match r.d with
  | .lst (x :: xs) => if cmpOk (x :: xs) then .ok (rsF (maxK x xs)) else .no
  | _ => .no
end
mutual
theorem toPD_inj : ∀ (a b : Dat) (p : PyData), toPD a = some p → toPD b = some p → a = b
  | .non, b, p, h, h2 => by
    simp only [toPD] at h
    cases h
    cases b <;> simp only [toPD] at h2 <;> first | rfl | cases h2 | (simp [Option.map_eq_some_iff] at h2)
  | .bl x, b, p, h, h2 => by
    simp only [toPD] at h
    cases h
    cases b <;> simp only [toPD] at h2 <;> first | (cases h2; rfl) | cases h2 | (simp [Option.map_eq_some_iff] at h2)
  | .int x, b, p, h, h2 => by
    simp only [toPD] at h
    cases h
    cases b <;> simp only [toPD] at h2 <;> first | (cases h2; rfl) | cases h2 | (simp [Option.map_eq_some_iff] at h2)
  | .str x, b, p, h, h2 => by
    simp only [toPD] at h
    injection h with h
    subst h
    cases b <;> simp only [toPD] at h2 <;> first | (injection h2 with h2; injection h2 with h2; rw [mkS_inj h2]) | cases h2 | (simp [Option.map_eq_some_iff] at h2)
  | .tup xs, b, p, h, h2 => by
    simp only [toPD, Option.map_eq_some_iff] at h
    obtain ⟨ps, e, rfl⟩ := h
    cases b <;> simp only [toPD] at h2 <;> first | cases h2 | (simp only [Option.map_eq_some_iff] at h2)
    · obtain ⟨qs, e2, e3⟩ := h2
      injection e3 with e3
      subst e3
      rw [toPDs_inj xs _ _ e e2]
    · obtain ⟨qs, e2, e3⟩ := h2
      cases e3
  | .lst xs, b, p, h, h2 => by
    simp only [toPD, Option.map_eq_some_iff] at h
    obtain ⟨ps, e, rfl⟩ := h
    cases b <;> simp only [toPD] at h2 <;> first | cases h2 | (simp only [Option.map_eq_some_iff] at h2)
    · obtain ⟨qs, e2, e3⟩ := h2
      cases e3
    · obtain ⟨qs, e2, e3⟩ := h2
      injection e3 with e3
      subst e3
      rw [toPDs_inj xs _ _ e e2]
  | .rol _, _, _, h, _ => by
    simp only [toPD] at h
    cases h
  | .dic _ _, _, _, h, _ => by
    simp only [toPD] at h
    cases h
  | .ins _ _ _, _, _, h, _ => by
    simp only [toPD] at h
    cases h
  | .fn _, _, _, h, _ => by
    simp only [toPD] at h
    cases h
theorem toPDs_inj : ∀ (a b : List Dat) (p : List PyData), toPDs a = some p → toPDs b = some p → a = b
  | [], b, p, h, h2 => by
    simp only [toPDs] at h
    cases h
    cases b with
    | nil => rfl
    | cons y ys =>
      obtain ⟨q, qs, _, _, z⟩ := toPDs_cons h2
      cases z
  | x :: xs, b, p, h, h2 => by
    obtain ⟨q, qs, e1, e2, rfl⟩ := toPDs_cons h
    cases b with
    | nil =>
      simp only [toPDs] at h2
      cases h2
    | cons y ys =>
      obtain ⟨q', qs', e3, e4, z⟩ := toPDs_cons h2
      injection z with z1 z2
      subst z1 z2
      rw [toPD_inj x y _ e1 e3, toPDs_inj xs ys _ e2 e4]
end
theorem ltK_pd {a b : Dat} {p q : PyData} (h1 : toPD a = some p) (h2 : toPD b = some q) : ltK a b = PySem.W.dataLt p q := by
  unfold ltK keyD
  rw [h1, h2]
  rfl
theorem minK_pd : ∀ {xs : List Dat} {ps : List PyData} {x : Dat} {p : PyData}, toPD x = some p → toPDs xs = some ps → toPD (minK x xs) = some (PySem.W.minD p ps)
  | [], ps, x, p, h, h2 => by
    simp only [toPDs] at h2
    cases h2
    exact h
  | y :: xs, ps, x, p, h, h2 => by
    obtain ⟨q, qs, e1, e2, rfl⟩ := toPDs_cons h2
    have ih := fun (z : Dat) (r : PyData) (hz : toPD z = some r) => minK_pd (xs := xs) (ps := qs) (x := z) (p := r) hz e2
    show toPD (minK (if ltK y x then y else x) xs) = some (PySem.W.minD (if PySem.W.dataLt q p then q else p) qs)
    rw [ltK_pd e1 h]
    split
    · exact ih y q e1
    · exact ih x p h
theorem maxK_pd : ∀ {xs : List Dat} {ps : List PyData} {x : Dat} {p : PyData}, toPD x = some p → toPDs xs = some ps → toPD (maxK x xs) = some (PySem.W.maxD p ps)
  | [], ps, x, p, h, h2 => by
    simp only [toPDs] at h2
    cases h2
    exact h
  | y :: xs, ps, x, p, h, h2 => by
    obtain ⟨q, qs, e1, e2, rfl⟩ := toPDs_cons h2
    have ih := fun (z : Dat) (r : PyData) (hz : toPD z = some r) => maxK_pd (xs := xs) (ps := qs) (x := z) (p := r) hz e2
    show toPD (maxK (if ltK x y then y else x) xs) = some (PySem.W.maxD (if PySem.W.dataLt p q then q else p) qs)
    rw [ltK_pd h e1]
    split
    · exact ih y q e1
    · exact ih x p h
theorem toPDs_at : ∀ {ds : List Dat} {ps : List PyData} {i : Nat} {d : Dat}, toPDs ds = some ps → ds[i]? = some d → ∃ p, ps[i]? = some p ∧ toPD d = some p
  | x :: ds, ps, i, d, h, hi => by
    obtain ⟨q, qs, e1, e2, rfl⟩ := toPDs_cons h
    cases i with
    | zero =>
      cases hi
      exact ⟨q, rfl, e1⟩
    | succ i =>
      obtain ⟨p, hp, ep⟩ := toPDs_at (i := i) (d := d) e2 (by simpa using hi)
      exact ⟨p, by simpa using hp, ep⟩
theorem intD_of {d : Dat} (h : isIntD d = true) : ∃ x, d = .int x := by
  cases d <;> first | exact ⟨_, rfl⟩ | cases h
structure CmpC (ds : List Dat) (ps : List PyData) : Prop where
  e : toPDs ds = some ps
  al : PySem.W.AlikeAll ps
  dp : PyData.depthAll ps ≤ 20
  ln : ds.length ≤ 1000000
  fl : flatL ds = true
theorem cmpC_of {ds : List Dat} (h : cmpOk ds = true) : ∃ ps, CmpC ds ps := by
  unfold cmpOk at h
  cases e : toPDs ds with
  | none =>
    rw [e] at h
    cases h
  | some ps =>
    rw [e] at h
    simp only [Bool.and_eq_true, Bool.or_eq_true, decide_eq_true_eq] at h
    obtain ⟨⟨⟨h1, h2⟩, h3⟩, h4⟩ := h
    refine ⟨ps, e, ?_, h2, h3, h4⟩
    have bk := toPDs_back e
    rcases h1 with (h1 | h1) | ⟨h5, h6⟩
    · have st : ∀ p ∈ ps, ∃ x, p = .str (mkS x) := fun p hp => by
        obtain ⟨d, hd, ed⟩ := bk p hp
        obtain ⟨x, rfl⟩ := strD_of (List.all_eq_true.mp h1 d hd)
        simp only [toPD] at ed
        injection ed with ed
        exact ⟨x, ed.symm⟩
      refine ⟨fun p hp q hq => ?_, fun p hp => ?_⟩
      · obtain ⟨x, rfl⟩ := st p hp
        obtain ⟨y, rfl⟩ := st q hq
        simp [PySem.W.alike]
      · obtain ⟨x, rfl⟩ := st p hp
        exact fun z => nomatch z
    · have st : ∀ p ∈ ps, ∃ x, p = .int x := fun p hp => by
        obtain ⟨d, hd, ed⟩ := bk p hp
        obtain ⟨x, rfl⟩ := intD_of (List.all_eq_true.mp h1 d hd)
        simp only [toPD] at ed
        injection ed with ed
        exact ⟨x, ed.symm⟩
      refine ⟨fun p hp q hq => ?_, fun p hp => ?_⟩
      · obtain ⟨x, rfl⟩ := st p hp
        obtain ⟨y, rfl⟩ := st q hq
        simp [PySem.W.alike]
      · obtain ⟨x, rfl⟩ := st p hp
        exact fun z => nomatch z
    · refine ⟨fun p hp q hq => List.all_eq_true.mp (List.all_eq_true.mp h6 p hp) q hq, fun p hp => ?_⟩
      obtain ⟨d, hd, ed⟩ := bk p hp
      obtain ⟨x, r, rfl⟩ := tupD_of (List.all_eq_true.mp h5 d hd)
      simp only [toPD] at ed
      cases e2 : toPDs (x :: r) with
      | none => rw [e2] at ed; cases ed
      | some qs =>
        rw [e2] at ed
        injection ed with ed
        subst ed
        exact fun z => nomatch z
section
variable {X : Cx} {W : WX} {k : Nat}
def rMinD (X : Cx) (g : Dat → List Dat → Dat) : List V → Hp → VK → Prop := fun vs H Q => ∃ (a : Addr) (x : Dat) (xs : List Dat) (ws : List V) (fp : List Addr), vs = [V.ref a] ∧ SqL X.K H a ws ∧ RepL (glo X) H (x :: xs) ws fp ∧ cmpOk (x :: xs) = true ∧ ∀ v, Rep (glo X) H (g x xs) v [] → Q v H
/-- the value that was found is the datum that is due -/
theorem found_at {pins : List (Addr × Obj)} {σ : L2.St} {H : Hp} {s : Shared} (I : Inv X pins σ H s) {ds : List Dat} {ps : List PyData} {ws : List V} {fp : List Addr} {its : List Value} (c : CmpC ds ps) (rl : RepL (glo X) H ds ws fp) (rv : Vals ws its) {i : Nat} {v : Value} (hi : its[i]? = some v)
    {m : Dat} {q : PyData} (hm : toPD m = some q) (hq : q ∈ ps) {h' : Heap} {bs : List Addr} (hk : ∀ b o, s.heap.get? b = some o → h'.get? b = some o) (hr : Reads h' v q bs) : ∃ w, RelV w v ∧ Rep (glo X) H m w [] := by
  have hl : i < its.length := (List.getElem?_eq_some_iff.mp hi).1
  have hl2 : i < ds.length := by
    rw [← rl.len, rv.length]
    exact hl
  obtain ⟨w, f, hw, rw', hf⟩ := rl.at (List.getElem?_eq_getElem hl2)
  have rel : RelV w v := by
    have : ∀ {ws : List V} {us : List Value}, Vals ws us → ∀ {i : Nat} {w : V} {u : Value}, ws[i]? = some w → us[i]? = some u → RelV w u := by
      intro ws us r
      induction r with
      | nil => intro i w u h _; simp at h
      | cons r1 _ ih =>
        intro i w u h h2
        cases i with
        | zero =>
          cases h
          cases h2
          exact r1
        | succ i => exact ih (by simpa using h) (by simpa using h2)
    exact this rv hw hi
  obtain ⟨p, hp, ep⟩ := toPDs_at c.e (List.getElem?_eq_getElem hl2)
  obtain ⟨as, ra⟩ := Rep.reads I _ _ _ _ _ rw' rel ep
  have ra' := PyProof.Rows.Reads.keeps hk ra
  have hal := c.al.1 p (List.mem_of_getElem? hp) q hq
  have epq : p = q := PySem.W.alike_unique _ _ _ _ _ hal ra' hr
  subst epq
  have ed := toPD_inj _ _ _ ep hm
  have hfl : flat ds[i] = true := by
    have := c.fl
    rw [flatL_all] at this
    exact List.all_eq_true.mp this _ (List.getElem_mem hl2)
  have e0 := Rep.flat _ _ _ rw' hfl
  subst e0
  rw [ed] at rw'
  exact ⟨w, rel, rw'⟩
theorem minD_mem : ∀ (ps : List PyData) (p : PyData), PySem.W.minD p ps ∈ p :: ps
  | [], p => List.mem_cons_self
  | q :: ps, p => by
    show PySem.W.minD (if PySem.W.dataLt q p then q else p) ps ∈ _
    have := minD_mem ps (if PySem.W.dataLt q p then q else p)
    rcases List.mem_cons.mp this with h | h
    · rw [h]
      split <;> simp
    · exact List.mem_cons_of_mem _ (List.mem_cons_of_mem _ h)
theorem maxD_mem : ∀ (ps : List PyData) (p : PyData), PySem.W.maxD p ps ∈ p :: ps
  | [], p => List.mem_cons_self
  | q :: ps, p => by
    show PySem.W.maxD (if PySem.W.dataLt p q then q else p) ps ∈ _
    have := maxD_mem ps (if PySem.W.dataLt p q then q else p)
    rcases List.mem_cons.mp this with h | h
    · rw [h]
      split <;> simp
    · exact List.mem_cons_of_mem _ (List.mem_cons_of_mem _ h)
theorem cr_minD' (C : XOk k X) : CallR X (.builtin "min") (rMinD X minK) := by
  intro pins s σ H vs us Q I r h
  obtain ⟨a, x, xs, ws, fp, rfl, hs, rl, ok, q⟩ := h
  obtain ⟨ps', c⟩ := cmpC_of ok
  obtain ⟨p, ps, e1, e2, rfl⟩ := toPDs_cons c.e
  obtain ⟨its, rv, pl, _⟩ := I.list hs
  rw [Vals.ref1 r]
  obtain ⟨as, ra⟩ := RepL.reads I _ _ _ _ _ rl rv c.e
  have hu := C.u64
  have hd := c.dp
  refine PySem.W.min_list_data (I.ok.hd C.calm) pl.isList (by simpa using ra) c.al (by show X.A.units + 1 + _ < cLine; omega) fun i v h' tk bs hi hr hk => ?_
  obtain ⟨w, rel, rw'⟩ := found_at I c rl rv (by simpa using hi) (minK_pd e1 e2) (minD_mem ps p) hk hr
  exact ⟨w, H, I.kept hk, rel, q w rw'⟩
theorem cr_maxD' (C : XOk k X) : CallR X (.builtin "max") (rMinD X maxK) := by
  intro pins s σ H vs us Q I r h
  obtain ⟨a, x, xs, ws, fp, rfl, hs, rl, ok, q⟩ := h
  obtain ⟨ps', c⟩ := cmpC_of ok
  obtain ⟨p, ps, e1, e2, rfl⟩ := toPDs_cons c.e
  obtain ⟨its, rv, pl, _⟩ := I.list hs
  rw [Vals.ref1 r]
  obtain ⟨as, ra⟩ := RepL.reads I _ _ _ _ _ rl rv c.e
  have hu := C.u64
  have hd := c.dp
  refine PySem.W.max_list_data (I.ok.hd C.calm) pl.isList (by simpa using ra) c.al (by show X.A.units + 1 + _ < cLine; omega) fun i v h' tk bs hi hr hk => ?_
  obtain ⟨w, rel, rw'⟩ := found_at I c rl rv (by simpa using hi) (maxK_pd e1 e2) (maxD_mem ps p) hk hr
  exact ⟨w, H, I.kept hk, rel, q w rw'⟩
theorem fns_min {g : Dat → List Dat → Dat} {gg : Rs → Res Rs} (hg : ∀ r, gg r = match r.d with
    | .lst (x :: xs) => if cmpOk (x :: xs) then .ok (rsF (g x xs)) else .no
    | _ => .no) : FnS X (rMinD X g) gg := by
  intro W H0 H F σ ra x fa Q s0 tr gv o
  have p := gv.rep
  rw [hg] at o
  cases ed : ra.d <;> simp only [ed] at o <;> first | exact o.elim | skip
  rename_i l
  cases l with
  | nil => exact o.elim
  | cons y ys =>
    obtain ⟨a, vs, f', ex, hv, rr, z⟩ := p.seqL (xs := y :: ys) (by rw [ed]; rfl)
    by_cases h : cmpOk (y :: ys) = true
    · simp only [h, if_true] at o
      exact ⟨a, y, ys, vs, f', by rw [ex], hv, rr, h, fun v r => o.flat r⟩
    · simp only [h] at o
      exact o.elim
theorem ev_min (C : XOk k X) {p pos : Pos} {e : Expr} {f : Sto → Res Rs} (hm : X.mg "min" = none) (he : Ev X W e f) (hgl : Gl X "min" := by rfl) (hs : starEach [e] X.env = (false, eval e X.env) :: starEach [] X.env := by rfl) : Ev X W (.Call (.Name "min" p) [e] [] pos) (fOne gMin f) :=
  ev_fn1 (cr_minD' C) (fns_min fun _ => rfl) hgl hm (by decide +kernel) he (by decide) (by decide) hs
theorem ev_max (C : XOk k X) {p pos : Pos} {e : Expr} {f : Sto → Res Rs} (hm : X.mg "max" = none) (he : Ev X W e f) (hgl : Gl X "max" := by rfl) (hs : starEach [e] X.env = (false, eval e X.env) :: starEach [] X.env := by rfl) : Ev X W (.Call (.Name "max" p) [e] [] pos) (fOne gMax f) :=
  ev_fn1 (cr_maxD' C) (fns_min fun _ => rfl) hgl hm (by decide +kernel) he (by decide) (by decide) hs
end
end PV

/-! PV19: sets of texts in an expression: how many, sorted. -/
namespace PV
open PySem PySem.Spec L2
/-! ### texts in order -/
theorem ltK_str (a b : Tx) : ltK (.str a) (.str b) = decide (a < b) := by
  have e1 : keyD (.str a) = [.inr a] := rfl
  have e2 : keyD (.str b) = [.inr b] := rfl
  unfold ltK
  rw [e1, e2]
  rw [PyProof.Rows.lex_cons]
  show (PyProof.Rows.itemLt (.inr a) (.inr b) || (!PyProof.Rows.itemLt (.inr b) (.inr a) && false)) = _
  rw [Bool.and_false, Bool.or_false]
  rfl
theorem rising_up : ∀ (l : List Str) (p : Str), PyProof.Rows.risingS p l = true → (p :: l).Pairwise fun x y => ¬ y.cps.toList < x.cps.toList
  | [], p, _ => List.pairwise_singleton _ _
  | x :: l, p, h => by
    have h' : (!Spec.ltCps x.cps.toList p.cps.toList && PyProof.Rows.risingS x l) = true := h
    rw [Bool.and_eq_true, PyProof.Rows.ltCps_eq] at h'
    obtain ⟨h1, h2⟩ := h'
    have ih := rising_up l x h2
    have h3 : ¬ x.cps.toList < p.cps.toList := by simpa using h1
    refine List.pairwise_cons.mpr ⟨fun y hy => ?_, ih⟩
    rcases List.mem_cons.mp hy with rfl | hy
    · exact h3
    · intro z
      have h4 := (List.pairwise_cons.mp ih).1 y hy
      exact h3 (List.lt_of_le_of_lt (List.not_lt.mp h4) z)
theorem sorted_up {l : List Str} (h : PyProof.Rows.sortedS l = true) : l.Pairwise fun x y => ¬ y.cps.toList < x.cps.toList := by
  cases l with
  | nil => exact .nil
  | cons p l => exact rising_up l p h
theorem strs_sortK {ys : List Str} {ns : List Tx} (h : PyProof.Rows.sortedS ys = true) (p : ys.Perm (ns.map mkS)) : ys.map (fun y => Dat.str y.cps.toList) = sortK (ns.map .str) := by
  have p2 : (ys.map fun y => Dat.str y.cps.toList).Perm (ns.map .str) := by
    have := p.map fun y => Dat.str y.cps.toList
    rw [List.map_map] at this
    exact this
  refine up_uniq ?_ (sortK_up _) (p2.trans (sortK_perm _).symm) fun x hx y hy e => ?_
  · refine List.pairwise_map.mpr ((sorted_up h).imp fun {a b} hab => ?_)
    rw [ltK_str]
    simpa using hab
  · obtain ⟨a, _, rfl⟩ := List.mem_map.mp hx
    obtain ⟨b, _, rfl⟩ := List.mem_map.mp hy
    have : ([.inr a.cps.toList] : List Tk) = [.inr b.cps.toList] := e
    simpa using this
def nubT (ns : List Tx) : List Tx := ns.foldl (fun l k => if k ∈ l then l else l ++ [k]) []
theorem nub_map : ∀ (ns l : List Tx), (ns.map mkS).foldl (fun l k => if k ∈ l then l else l ++ [k]) (l.map mkS) = (ns.foldl (fun l k => if k ∈ l then l else l ++ [k]) l).map mkS
  | [], l => rfl
  | n :: ns, l => by
    rw [List.map_cons, List.foldl_cons, List.foldl_cons]
    have e : (if mkS n ∈ l.map mkS then l.map mkS else l.map mkS ++ [mkS n]) = (if n ∈ l then l else l ++ [n]).map mkS := by
      by_cases h : n ∈ l
      · rw [if_pos h, if_pos (List.mem_map.mpr ⟨n, h, rfl⟩)]
      · rw [if_neg h, if_neg (fun z => by
          obtain ⟨m, hm, em⟩ := List.mem_map.mp z
          rw [mkS_inj em] at hm
          exact h hm)]
        simp
    rw [e]
    exact nub_map ns _
theorem nubS_map (ns : List Tx) : nubS (ns.map mkS) = (nubT ns).map mkS := nub_map ns []
section
variable {X : Cx} {W : WX} {k : Nat}
/-- f(set(xs)), where f is asked of the new set at p -/
def tSetTx (X : Cx) (ta : TE) (K : List Str → Hp → VK → Prop) : TE := fun σ H Q => ta σ H fun x H1 => ∃ l, ∃ xs : List Str, x = .ref l ∧ SqL X.K H1 l (xs.map V.str) ∧ xs.length ≤ 4000 ∧ K (nubS xs) H1 Q
theorem pe_setTx (C : XOk k X) {a : Expr} {ta : TE} {fn : Str} {id : String} {p p2 q pos : Pos} {K : List Str → Hp → VK → Prop}
    (hf : ∀ (pins : List (Addr × Obj)) (σ : L2.St) (H : Hp) (s : Shared) (b : Addr) (ks : List Str) (Q : VK) (A : Around) (E : Value → Shared → Prop), A.handled = none → Inv X pins σ H s → TxSet X.w s.heap b ks → K ks H Q → wpAny (model X.prog X.w) A (call (.builtin id) [.ref b]) (fun v s' => ∃ x H', Inv X pins σ H' s' ∧ RelV x v ∧ Q x H') E s)
    (hg : Gl X fn) (hm : X.mg fn = none) (hv : bootBuiltins fn = some (.builtin id)) (hg2 : Gl X "set") (hm2 : X.mg "set" = none) (ha : PE X a ta) (hn : fn ≠ "__name__") (hd : (fn == ("__debug__" : Str)) = false)
    (na : starEach [a] X.env = (false, eval a X.env) :: starEach [] X.env := by rfl) : PE X (.Call (.Name fn p) [.Call (.Name "set" p2) [a] [] q] [] pos) (tSetTx X ta K) := by
  refine ⟨fun pins s σ H Q I h => ?_⟩
  refine PyProof.Rows.Call_ (ld_blt I hg hm hv ?_ hn hd)
  refine PyProof.Rows.callWith_builtin1 (PyProof.Rows.args_cons ?_ rfl) rfl rfl
  refine PyProof.Rows.Call_ (ld_blt I hg2 hm2 PyProof.Rows.boot_set ?_)
  refine PyProof.Rows.callWith_type1 (PyProof.Rows.args_cons (thn (ha.run pins s σ H _ I h) fun v s1 ⟨x, H1, I1, r1, q1⟩ => PyProof.Rows.args_nil ?_) na) na rfl
  obtain ⟨l, xs, rfl, hq, h1, q1⟩ := q1
  cases r1
  obtain ⟨its, r, pl, hz⟩ := I1.list hq
  refine call_setTx (I1.ok.hd C.calm) pl.isList (xs := xs) (by simpa using r.strs) (by unfold scanBound; omega) fun h' tk hS hk => ?_
  refine PyProof.Rows.args_nil ?_
  exact hf pins σ H1 { s1 with heap := h', toks := tk } _ _ Q _ _ (I1.ok.hd C.calm) (I1.kept hk) hS q1
theorem pe_lenSet (C : XOk k X) {a : Expr} {ta : TE} {p p2 q pos : Pos} (hg : Gl X "len") (hm : X.mg "len" = none) (hg2 : Gl X "set") (hm2 : X.mg "set" = none) (ha : PE X a ta)
    (na : starEach [a] X.env = (false, eval a X.env) :: starEach [] X.env := by rfl) : PE X (.Call (.Name "len" p) [.Call (.Name "set" p2) [a] [] q] [] pos) (tSetTx X ta fun ks H Q => Q (.int ks.length) H) :=
  pe_setTx C (fun pins σ H s b ks Q A E hh I hS hq => call_lenTx hS ⟨.int ks.length, H, I.tok _, ⟨_, rfl⟩, hq⟩) hg hm PySem.boot_len hg2 hm2 ha (by decide) (by decide) na
theorem pe_sortSet (C : XOk k X) {a : Expr} {ta : TE} {p p2 q pos : Pos} (hg : Gl X "sorted") (hm : X.mg "sorted" = none) (hg2 : Gl X "set") (hm2 : X.mg "set" = none) (ha : PE X a ta)
    (na : starEach [a] X.env = (false, eval a X.env) :: starEach [] X.env := by rfl) : PE X (.Call (.Name "sorted" p) [.Call (.Name "set" p2) [a] [] q] [] pos)
      (tSetTx X ta fun ks H Q => ks.length ≤ 1000000 ∧ ∀ ys b, ys.Perm ks → PyProof.Rows.sortedS ys = true → H b = none → Q (.ref b) (upd H b (.lst (ys.map V.str)))) :=
  pe_setTx C (fun pins σ H s b ks Q A E hh I hS hq => by
    refine sorted_setTx hS hh fun s' p out c ys kk g o hp hg hi pm st => ?_
    have hlen : (ys.map V.str).length ≤ sizeLine := by
      rw [List.length_map, pm.length_eq]
      have : sizeLine = 16777216 := by decide
      have := hq.1
      omega
    have hn : H p = none := I.hok.fresh hp
    have J : Inv X pins σ (upd H p (.lst (ys.map V.str))) { s with heap := s'.heap, gens := s'.gens, drawn := s'.drawn, toks := s'.toks } :=
      I.call (ch := []) (Un.laid kk hp hn) (I.hok.laid kk hp ⟨hlen, out.toList, c, vals_of_strs hi, hg⟩) (by rw [g]; exact I.bare) (fun _ z => nomatch z)
    have e : s' = { s with heap := s'.heap, gens := s'.gens, drawn := s'.drawn, toks := s'.toks } := by
      cases s'
      cases s
      cases o
      rfl
    rw [e]
    exact ⟨.ref p, _, J, rfl, hq.2 ys p pm st hn⟩) hg hm PyProof.Rows.boot_sorted hg2 hm2 ha (by decide) (by decide) na
/-! ### over pure data -/
def gLenSet (r : Rs) : Res Rs := match (seqOf r.d).bind strsOf with
  | some ns => if ns.length ≤ 4000 then .ok (rsF (.int (nubT ns).length)) else .no
  | none => .no
def gSortSet (r : Rs) : Res Rs := match (seqOf r.d).bind strsOf with
  | some ns => if ns.length ≤ 4000 then .ok (rNewL (sortK ((nubT ns).map .str)) []) else .no
  | none => .no
theorem set_arg {f : Sto → Res Rs} {g : Rs → Res Rs} {h : List Tx → Res Rs} {K : List Str → Hp → VK → Prop} (hg : ∀ r, g r = match (seqOf r.d).bind strsOf with
    | some ns => if ns.length ≤ 4000 then h ns else .no
    | none => .no) (hK : ∀ (ns : List Tx) (H0 H : Hp) (F : Fp) (σ : L2.St) (Q : VK), Same H0 H → ns.length ≤ 4000 → Out X W H0 H F σ (h ns) Q → K (nubS (ns.map mkS)) H Q) {σ : L2.St} {H : Hp} {Q : VK} (hw : tEv X W (fOne g f) σ H Q) : tSetTx X (tEv X W f) K σ H Q := by
  obtain ⟨E, F, re, o⟩ := hw
  refine seqE re (Same.refl H) o fun ra x H1 f1 e1 s1 g1 o1 => ?_
  rw [hg] at o1
  cases e2 : seqOf ra.d with
  | none =>
    rw [e2] at o1
    exact o1.elim
  | some xs =>
    rw [e2] at o1
    obtain ⟨a, vs, f', ex, hv, rr, z⟩ := g1.rep.seqL (seqOf_vw e2)
    cases e3 : strsOf xs with
    | none =>
      simp only [Option.bind_some, e3] at o1
      exact o1.elim
    | some ns =>
      simp only [Option.bind_some, e3] at o1
      by_cases hl : ns.length ≤ 4000
      · rw [if_pos hl] at o1
        obtain ⟨q1, _⟩ := strsOf_reps rr e3
        rw [q1] at hv
        exact ⟨a, ns.map mkS, ex, hv, by simpa using hl, hK ns H H1 F σ Q s1 hl o1⟩
      · rw [if_neg hl] at o1
        exact o1.elim
theorem nubT_len (ns : List Tx) : (nubT ns).length ≤ ns.length := by
  have h := nub_len (ns.map mkS) []
  have e : (nubS (ns.map mkS)).length = (nubT ns).length := by rw [nubS_map, List.length_map]
  unfold nubS at e
  simp at h
  omega
theorem ev_lenSet (C : XOk k X) {a : Expr} {f : Sto → Res Rs} {p p2 q pos : Pos} (hm : X.mg "len" = none) (hm2 : X.mg "set" = none) (ha : Ev X W a f) (hg : Gl X "len" := by rfl) (hg2 : Gl X "set" := by rfl)
    (na : starEach [a] X.env = (false, eval a X.env) :: starEach [] X.env := by rfl) : Ev X W (.Call (.Name "len" p) [.Call (.Name "set" p2) [a] [] q] [] pos) (fOne gLenSet f) := by
  refine ⟨weakE (pe_lenSet C hg hm hg2 hm2 ha.pe na) fun σ H Q h => set_arg (g := gLenSet) (fun _ => rfl) (fun ns H0 H F σ Q s hl o => ?_) h⟩
  rw [nubS_map, List.length_map]
  exact o.flat mk_int
theorem ev_sortSet (C : XOk k X) {a : Expr} {f : Sto → Res Rs} {p p2 q pos : Pos} (hm : X.mg "sorted" = none) (hm2 : X.mg "set" = none) (ha : Ev X W a f) (hg : Gl X "sorted" := by rfl) (hg2 : Gl X "set" := by rfl)
    (na : starEach [a] X.env = (false, eval a X.env) :: starEach [] X.env := by rfl) : Ev X W (.Call (.Name "sorted" p) [.Call (.Name "set" p2) [a] [] q] [] pos) (fOne gSortSet f) := by
  refine ⟨weakE (pe_sortSet C hg hm hg2 hm2 ha.pe na) fun σ H Q h => set_arg (g := gSortSet) (fun _ => rfl) (fun ns H0 H F σ Q s hl o => ?_) h⟩
  have hn := nubT_len ns
  rw [nubS_map]
  refine ⟨by rw [List.length_map]; omega, fun ys b pm st hb => ?_⟩
  have e := strs_sortK st pm
  have rr : RepL (glo X) H (sortK ((nubT ns).map .str)) (ys.map V.str) [] := by
    rw [← e]
    have z := strs_reps (G := glo X) (H := H) (ys.map fun y => y.cps.toList)
    rw [List.map_map, List.map_map, List.map_map] at z
    have e2 : (V.str ∘ mkS) ∘ (fun y : Str => y.cps.toList) = V.str := funext fun y => by
      show V.str (mkS y.cps.toList) = V.str y
      rw [mkS_tl]
    have e3 : (Dat.str ∘ fun y : Str => y.cps.toList) = fun y => Dat.str y.cps.toList := rfl
    rw [e2, e3] at z
    exact z
  exact o _ _ _ (same_new hb) (Gv.newL s rr hb fun _ z => nomatch z)
end
end PV

/-! PV20: what is written: lists and dicts of a slot. -/
namespace PV
open PySem PySem.Spec L2
theorem root_of {G : Glo} {B : Fx} {E : Sto} {σ : L2.St} {H : Hp} {F : Fp} {i : Nat} {l : Addr} {f : List Addr} (r : R G B E σ H F) (hk : kd E i ≠ .shr) (hF : F i = l :: f) : l ∈ Ow E F i ∧ l ∉ f := by
  unfold Ow
  rw [hF]
  cases e : kd E i with
  | shr => exact absurd e hk
  | deep =>
    have := r.nod i e
    rw [hF] at this
    exact ⟨List.mem_cons_self, (List.nodup_cons.mp this).1⟩
  | root =>
    obtain ⟨a, g, h1, h2⟩ := r.rot i e
    rw [hF] at h1
    injection h1 with h3 h4
    subst h3 h4
    exact ⟨by simp [owK], h2⟩
/-- the object of slot i is written: o at l; what is laid in it came from a hand -/
theorem R.write {G : Glo} {B : Fx} {E : Sto} {σ : L2.St} {H : Hp} {F : Fp} {i : Nat} {l : Addr} {f f' fp : List Addr} {d d2 d' : Dat} {k0 k2 : Kd} {v2 v : V} {o : HO} (r : R G B E σ H F) (hs : slot E i = some (d, k0)) (hk : k0 ≠ .shr) (hF : F i = l :: f) (hv : σ[i]? = some (some v)) (wo : wrO o = true)
    (hd : Hand G B E F H d2 k2 v2 fp) (hsub : ∀ a ∈ f', a ∈ f ∨ a ∈ fp) (hn : (f ++ fp).Nodup → f'.Nodup) (hrep : Rep G (upd H l o) d' v (l :: f')) :
    R G B (E.set i (some (d', if k0 = .deep ∧ k2 = .deep then .deep else .root))) σ (upd H l o) (fun j => if j = i then l :: f' else F j) := by
  have ki : kd E i = k0 := by
    unfold kd
    rw [hs]
  have hi : i < E.length := slot_lt hs
  obtain ⟨lo, lf⟩ := root_of r (by rw [ki]; exact hk) hF
  have lp : l ∉ fp := hd.sp2 i l lo
  have lw := r.own i l lo
  have ln : ∀ j, j ≠ i → l ∉ F j := fun j hj => r.sep i j (fun e => hj e.symm) l lo
  have lf' : l ∉ f' := fun z => (hsub l z).elim lf lp
  have kp := Kp.upd (o := o) lw.1
  have wr : ∀ a, a ≠ l → Wr H a → Wr (upd H l o) a := fun a ha ⟨u, e, w⟩ => ⟨u, by rw [upd_ne ha]; exact e, w⟩
  have wl : Wr (upd H l o) l := ⟨o, upd_same, wo⟩
  have kk : ∀ j, kd (E.set i (some (d', if k0 = .deep ∧ k2 = .deep then .deep else .root))) j = if j = i then (if k0 = .deep ∧ k2 = .deep then .deep else .root) else kd E j := fun j => kd_set hi
  have own_i : ∀ a ∈ owK (if k0 = .deep ∧ k2 = .deep then Kd.deep else .root) (l :: f'), a = l ∨ (k0 = .deep ∧ a ∈ f) ∨ (k2 = .deep ∧ a ∈ fp) := by
    intro a ha
    by_cases hh : k0 = .deep ∧ k2 = .deep
    · rw [if_pos hh] at ha
      rcases List.mem_cons.mp ha with q | q
      · exact .inl q
      · rcases hsub a q with q | q
        · exact .inr (.inl ⟨hh.1, q⟩)
        · exact .inr (.inr ⟨hh.2, q⟩)
    · rw [if_neg hh] at ha
      left
      simpa [owK] using ha
  have fo : k0 = .deep → ∀ a ∈ f, a ∈ Ow E F i := fun e a ha => by
    unfold Ow
    rw [ki, e, hF]
    exact List.mem_cons_of_mem _ ha
  have po : k2 = .deep → ∀ a ∈ fp, a ∈ owK k2 fp := fun e a ha => by
    rw [e]
    exact ha
  have ow : ∀ j, Ow (E.set i (some (d', if k0 = .deep ∧ k2 = .deep then .deep else .root))) (fun j => if j = i then l :: f' else F j) j = if j = i then owK (if k0 = .deep ∧ k2 = .deep then Kd.deep else .root) (l :: f') else Ow E F j := by
    intro j
    unfold Ow
    rw [kk]
    by_cases hj : j = i <;> simp [hj]
  refine ⟨⟨by rw [List.length_set]; exact r.rep.len, fun j dj kj e => ?_, fun j e => ?_⟩, fun j a ha => ?_, fun j e => ?_, fun j e => ?_, fun j m n a ha => ?_, r.pro, fun t ht => ⟨(r.pro t ht).keep [l] H _ (r.tmp t ht).1 (Kf.upd (o := o) lw.1) fun a ha => ?_, fun j a ha => ?_⟩, fun j a ha => ?_, fun b u e => ?_⟩
  · rw [slot_set hi] at e
    by_cases hj : j = i
    · rw [if_pos hj] at e
      injection e with e
      injection e with e1 e2
      subst hj e1
      refine ⟨v, hv, ?_⟩
      simp only [if_true]
      exact hrep
    · rw [if_neg hj] at e
      obtain ⟨w, h1, h2⟩ := r.rep.rep j dj kj e
      refine ⟨w, h1, ?_⟩
      simp only [hj, if_false]
      exact Rep.kp kp _ _ _ h2 fun a ha z => ln j hj (by
        rw [List.mem_singleton] at z
        rw [← z]
        exact ha)
  · rw [slot_set hi] at e
    by_cases hj : j = i
    · rw [if_pos hj] at e
      cases e
    · rw [if_neg hj] at e
      simp only [hj, if_false]
      exact r.rep.emp j e
  · rw [ow] at ha
    by_cases hj : j = i
    · rw [if_pos hj] at ha
      rcases own_i a ha with q | ⟨e, q⟩ | ⟨e, q⟩
      · subst q
        exact ⟨wl, lw.2⟩
      · have := r.own i a (fo e a q)
        exact ⟨wr a (fun z => lf (z ▸ q)) this.1, this.2⟩
      · have := hd.own a (po e a q)
        exact ⟨wr a (fun z => lp (z ▸ q)) this.1, this.2⟩
    · rw [if_neg hj] at ha
      have := r.own j a ha
      exact ⟨wr a (fun z => ln j hj (z ▸ owK_sub a ha)) this.1, this.2⟩
  · rw [kk] at e
    by_cases hj : j = i
    · rw [if_pos hj] at e
      by_cases hh : k0 = .deep ∧ k2 = .deep
      · simp only [hj, if_true]
        refine List.nodup_cons.mpr ⟨lf', hn ?_⟩
        have n1 := r.nod i (by rw [ki]; exact hh.1)
        rw [hF] at n1
        refine List.nodup_append.mpr ⟨(List.nodup_cons.mp n1).2, hd.nod hh.2, fun a ha b hb z => ?_⟩
        subst z
        exact hd.sp2 i a (fo hh.1 a ha) hb
      · rw [if_neg hh] at e
        cases e
    · rw [if_neg hj] at e
      simp only [hj, if_false]
      exact r.nod j e
  · rw [kk] at e
    by_cases hj : j = i
    · simp only [hj, if_true]
      exact ⟨l, f', rfl, lf'⟩
    · rw [if_neg hj] at e
      simp only [hj, if_false]
      exact r.rot j e
  · rw [ow] at ha
    by_cases hj : j = i
    · rw [if_pos hj] at ha
      have hm : m ≠ i := fun e => n (hj.trans e.symm)
      simp only [hm, if_false]
      rcases own_i a ha with q | ⟨e, q⟩ | ⟨e, q⟩
      · subst q
        exact ln m hm
      · exact r.sep i m (fun e => hm e.symm) a (fo e a q)
      · exact hd.sp1 a (po e a q) m
    · rw [if_neg hj] at ha
      by_cases hm : m = i
      · simp only [hm, if_true]
        intro z
        have h1 := r.sep j i hj a ha
        rw [hF] at h1
        rcases List.mem_cons.mp z with q | q
        · exact h1 (by rw [q]; exact List.mem_cons_self)
        · rcases hsub a q with q | q
          · exact h1 (List.mem_cons_of_mem _ q)
          · exact hd.sp2 j a ha q
      · simp only [hm, if_false]
        exact r.sep j m n a ha
  · intro z
    rw [List.mem_singleton] at z
    subst z
    exact (r.tmp t ht).2 i a lo ha
  · rw [ow] at ha
    by_cases hj : j = i
    · rw [if_pos hj] at ha
      rcases own_i a ha with q | ⟨e, q⟩ | ⟨e, q⟩
      · subst q
        exact (r.tmp t ht).2 i a lo
      · exact (r.tmp t ht).2 i a (fo e a q)
      · exact hd.tmp t ht a (po e a q)
    · rw [if_neg hj] at ha
      exact (r.tmp t ht).2 j a ha
  · by_cases hj : j = i
    · simp only [hj, if_true] at ha
      rcases List.mem_cons.mp ha with q | q
      · subst q
        exact .inl lw.2
      · rcases hsub a q with q | q
        · exact r.prv i a (by rw [hF]; exact List.mem_cons_of_mem _ q)
        · exact hd.prv a q
    · simp only [hj, if_false] at ha
      exact r.prv j a ha
  · have hb : b ≠ l := fun z => by
      subst z
      rw [lw.2] at e
      cases e
    rw [upd_ne hb]
    exact r.frm b u e
section
variable {X : Cx} {W : WX} {k : Nat}
theorem p_var (i : Nat) {x : Str} {pos : Pos} (hN : X.N[i]? = some x := by rfl) (hv : Vis X.env.scope x := by first | exact Or.inl rfl | exact Or.inr (Or.inl rfl) | exact Or.inr (Or.inr rfl)) (hd : (x == ("__debug__" : Str)) = false := by decide)
    (hcd : (x == ("__classdict__" : Str)) = false := by decide) : PE X (.Name x pos) (tVar i) := pe_var (i := i) hN hv hd hcd
/-- nothing in hand -/
theorem Hand.none {G : Glo} {B : Fx} {E : Sto} {F : Fp} {H : Hp} : Hand G B E F H .non .deep .non [] :=
  ⟨by simp [Rep], (fun _ z => nomatch z), fun _ => .nil, (fun z => nomatch z), (fun _ z => nomatch z), (fun _ _ _ z => nomatch z), (fun _ _ _ z => nomatch z), (fun _ z => nomatch z)⟩
/-- what a write makes of the kinds -/
def kMix (k0 k2 : Kd) : Kd := if k0 = .deep ∧ k2 = .deep then .deep else .root
/-- slot i, written by g with a value in hand -/
def sMut1 (i : Nat) (g : Dat → Dat → Option Dat) (E : Sto) (r : Rs) : Res Fl := match slot (PV.take false r E).1 i with
  | some (d0, k0) => if k0 = .shr then .no else match g d0 r.d with
    | some d' => .ok (.nx ((PV.take false r E).1.set i (some (d', kMix k0 (PV.take false r E).2))))
    | none => .no
  | none => .no
def lstAt (o : Option (Dat × Kd)) : Bool := match o with
  | some (.lst _, _) => true
  | _ => false
def dicAt (o : Option (Dat × Kd)) : Bool := match o with
  | some (.dic _ _, _) => true
  | _ => false
def sMut (c : Option (Dat × Kd) → Bool) (i : Nat) (g : Dat → Dat → Option Dat) (f : Sto → Res Rs) : Sto → Res Fl := fun E => if c (slot E i) then (f E).bind (sMut1 i g E) else .no
theorem lstAt_of {o : Option (Dat × Kd)} (h : lstAt o = true) : ∃ xs k, o = some (.lst xs, k) := by
  unfold lstAt at h
  split at h
  · exact ⟨_, _, rfl⟩
  · cases h
theorem dicAt_of {o : Option (Dat × Kd)} (h : dicAt o = true) : ∃ ks ds k, o = some (.dic ks ds, k) := by
  unfold dicAt at h
  split at h
  · exact ⟨_, _, _, rfl⟩
  · cases h
/-- a list of a slot -/
theorem lst_slot {G : Glo} {H : Hp} {E : Sto} {σ : L2.St} {F : Fp} {i : Nat} {xs : List Dat} {k0 : Kd} (r : RepE G H E σ F) (h : slot E i = some (.lst xs, k0)) : ∃ l vs f, σ[i]? = some (some (.ref l)) ∧ F i = l :: f ∧ H l = some (.lst vs) ∧ RepL G H xs vs f := by
  obtain ⟨v, h1, h2⟩ := r.rep i _ _ h
  simp only [Rep] at h2
  obtain ⟨a, vs, f, rfl, q, rl, e⟩ := h2
  exact ⟨a, vs, f, h1, e, q, rl⟩
theorem dic_slot {G : Glo} {B : Fx} {H : Hp} {E : Sto} {σ : L2.St} {F : Fp} {i : Nat} {ks : List Tx} {ds : List Dat} {k0 : Kd} (r : R G B E σ H F) (h : slot E i = some (.dic ks ds, k0)) (hk : k0 ≠ .shr) :
    ∃ l vs f, σ[i]? = some (some (.ref l)) ∧ F i = l :: f ∧ H l = some (.dK (kvOf ks vs)) ∧ ks.length = vs.length ∧ RepL G H ds vs f := by
  obtain ⟨v, h1, h2⟩ := r.rep.rep i _ _ h
  simp only [Rep] at h2
  obtain ⟨a, vs, f, rfl, q, hl, rl, e⟩ := h2
  have ki : kd E i = k0 := by
    unfold kd
    rw [h]
  have ho := (root_of r (by rw [ki]; exact hk) e).1
  exact ⟨a, vs, f, h1, e, (r.own i a ho).1.dic q, hl, rl⟩
/-- the write itself -/
theorem mut_run {i : Nat} {g : Dat → Dat → Option Dat} {B : Fx} {E : Sto} {F : Fp} {σ : L2.St} {H H1 : Hp} {D : Ends} {rs : Rs} {v : V} {fp : List Addr} (r : R (glo X) B E σ H F) (s1 : Same H H1) (gv : Gv (glo X) H F rs v H1 fp) (o1 : OutS X W B D (sMut1 i g E rs)) :
    ∃ (d0 : Dat) (k0 : Kd) (d' : Dat) (E1 : Sto) (F1 : Fp) (k2 : Kd), slot E1 i = some (d0, k0) ∧ k0 ≠ .shr ∧ g d0 rs.d = some d' ∧ R (glo X) B E1 σ H1 F1 ∧ Hand (glo X) B E1 F1 H1 rs.d k2 v fp ∧
      ∀ (w : V) (l : Addr) (f f' : List Addr) (ob : HO), F1 i = l :: f → σ[i]? = some (some w) → wrO ob = true → (∀ a ∈ f', a ∈ f ∨ a ∈ fp) → ((f ++ fp).Nodup → f'.Nodup) → (l ∉ f → l ∉ fp → Rep (glo X) (upd H1 l ob) d' w (l :: f')) → D.nx σ (upd H1 l ob) := by
  obtain ⟨F1, r1, h1⟩ := r.take false s1 gv
  unfold sMut1 at o1
  cases e : slot (PV.take false rs E).1 i with
  | none =>
    simp only [e] at o1
    exact o1.elim
  | some x =>
    obtain ⟨d0, k0⟩ := x
    simp only [e] at o1
    by_cases hk : k0 = .shr
    · rw [if_pos hk] at o1
      exact o1.elim
    · rw [if_neg hk] at o1
      cases eg : g d0 rs.d with
      | none =>
        simp only [eg] at o1
        exact o1.elim
      | some d' =>
        simp only [eg] at o1
        refine ⟨d0, k0, d', _, F1, _, e, hk, eg, r1, h1, fun w l f f' ob hF hv wo hsub hn hrep => ?_⟩
        have ki : kd (PV.take false rs E).1 i = k0 := by
          unfold kd
          rw [e]
        obtain ⟨lo, lf⟩ := root_of r1 (by rw [ki]; exact hk) hF
        exact o1 σ _ _ (r1.write e hk hF hv wo h1 hsub hn (hrep lf (h1.sp2 i l lo)))
def gApp (a b : Dat) : Option Dat := match a with
  | .lst xs => if xs.length ≤ 1000000 then some (.lst (xs ++ [b])) else none
  | _ => none
theorem not_in {l : Addr} {f : List Addr} (h : l ∉ f) : ∀ a ∈ f, a ∉ [l] := fun a ha z => h (by
  rw [List.mem_singleton] at z
  rw [← z]
  exact ha)
theorem size_lt {n : Nat} (h : n ≤ 1000000) : n < sizeLine := by
  have : sizeLine = 16777216 := by decide
  omega
section
variable {o e : Expr} {i : Nat} {f : Sto → Res Rs} {apos cpos pos : Pos}
theorem es_append (ho : PE X o (tVar i)) (he : Ev X W e f) (hbase : attributeBase o "append" X.env (eval o X.env) = eval o X.env := by rfl)
    (hfew : ((backTo cpos (starEach [e] X.env)).all (fun x => !x.1) && (backToKw cpos (keywordEach [] X.env)).all (fun x => x.1.isSome) && decide (([e] : List Expr).length + ([] : List Keyword).length + (if ([] : List Keyword).isEmpty then 0 else 1) < 30)) = true := by rfl)
    (hline : (apos.endLine == cpos.line) = true := by rfl) (hs : starEach [e] X.env = (false, eval e X.env) :: starEach [] X.env := by rfl) (hplain : (backTo cpos (starEach [] X.env)).any (·.1) = false := by rfl) (hw : swapsWith (.Call (.Attribute o "append" apos) [e] [] cpos) none pos.line X.env = pure false := by rfl) :
    Es X W (.Expr (.Call (.Attribute o "append" apos) [e] [] cpos) pos) (sMut lstAt i gApp f) := by
  refine ⟨weakS (ps_expr (pe_bm PySem.F.plainAttrs_list PySem.F.slot_list_append PySem.F.type_list_append mt_append ho (pa_cons he.pe pa_nil hs) hbase hfew hline hs hplain) hw) fun D σ H ⟨B, E, F, r, o⟩ => ?_⟩
  unfold sMut at o
  have hc : lstAt (slot E i) = true := Classical.byContradiction fun hc => by
    rw [if_neg hc] at o
    exact o.elim
  rw [if_pos hc] at o
  obtain ⟨xs0, k00, e0⟩ := lstAt_of hc
  obtain ⟨l0, vs0, f0, q1, q2, q3, q4⟩ := lst_slot r.rep e0
  refine ⟨.ref l0, q1, .inl ⟨rfl, vs0, .inl (.inl q3)⟩, ?_⟩
  refine seqS r o fun rs v H1 fp e1 s1 g1 o1 => ?_
  obtain ⟨d0, k0, d', E1, F1, k2, z1, z2, z3, r1, h1, fin⟩ := mut_run r s1 g1 o1
  unfold gApp at z3
  cases d0 <;> simp only at z3 <;> first | cases z3 | skip
  rename_i xs
  have hl : xs.length ≤ 1000000 := Classical.byContradiction fun hl => by
    rw [if_neg hl] at z3
    cases z3
  rw [if_pos hl] at z3
  injection z3 with z3
  subst z3
  obtain ⟨l, vs, f', y1, y2, y3, y4⟩ := lst_slot r1.rep z1
  have el : l = l0 := by
    rw [q1] at y1
    injection y1 with y1
    injection y1 with y1
    injection y1 with y1
    exact y1.symm
  subst el
  refine ⟨l, vs, v, rfl, rfl, y3, by rw [y4.len]; exact size_lt hl, ?_⟩
  refine fin (.ref l) l f' (f' ++ fp) _ y2 y1 rfl (fun a ha => List.mem_append.mp ha) id fun n1 n2 => ?_
  have kp := Kp.upd (o := HO.lst (vs ++ [v])) (H := H1) (a := l) ⟨_, y3, rfl⟩
  simp only [Rep]
  exact ⟨l, vs ++ [v], f' ++ fp, rfl, upd_same, (RepL.kp kp _ _ _ y4 (not_in n1)).app (RepL.one (Rep.kp kp _ _ _ h1.rep (not_in n2))), rfl⟩
end
end
end PV

/-! PV21: extend, insert, d[k] = v, setdefault. -/
namespace PV
open PySem PySem.Spec L2
section
variable {X : Cx} {W : WX} {k : Nat} {o e : Expr} {i : Nat} {f : Sto → Res Rs} {apos cpos pos : Pos}
/-! ### x.extend(ys), what is in ys cannot be written -/
def sExt1 (i : Nat) (E : Sto) (r : Rs) : Res Fl := match slot E i, r.d with
  | some (.lst xs, k0), .lst zs => if k0 = .shr then .no else if flatL zs && decide (xs.length + zs.length ≤ 1000000) then .ok (.nx (E.set i (some (.lst (xs ++ zs), kMix k0 .deep)))) else .no
  | _, _ => .no
def sExt (i : Nat) (f : Sto → Res Rs) : Sto → Res Fl := fun E => if lstAt (slot E i) then (f E).bind (sExt1 i E) else .no
theorem flat_reps {G : Glo} {H : Hp} : ∀ {ds : List Dat} {vs : List V} {fp : List Addr}, RepL G H ds vs fp → flatL ds = true → fp = []
  | [], vs, fp, r, _ => by
    simp only [RepL] at r
    exact r.2
  | d :: ds, vs, fp, r, h => by
    simp only [RepL] at r
    obtain ⟨v, vs', f, f', rfl, rfl, r1, r2⟩ := r
    simp only [flatL, Bool.and_eq_true] at h
    rw [Rep.flat _ _ _ r1 h.1, flat_reps r2 h.2]
    rfl
theorem es_extend (ho : PE X o (tVar i)) (he : Ev X W e f) (hbase : attributeBase o "extend" X.env (eval o X.env) = eval o X.env := by rfl)
    (hfew : ((backTo cpos (starEach [e] X.env)).all (fun x => !x.1) && (backToKw cpos (keywordEach [] X.env)).all (fun x => x.1.isSome) && decide (([e] : List Expr).length + ([] : List Keyword).length + (if ([] : List Keyword).isEmpty then 0 else 1) < 30)) = true := by rfl)
    (hline : (apos.endLine == cpos.line) = true := by rfl) (hs : starEach [e] X.env = (false, eval e X.env) :: starEach [] X.env := by rfl) (hplain : (backTo cpos (starEach [] X.env)).any (·.1) = false := by rfl) (hw : swapsWith (.Call (.Attribute o "extend" apos) [e] [] cpos) none pos.line X.env = pure false := by rfl) :
    Es X W (.Expr (.Call (.Attribute o "extend" apos) [e] [] cpos) pos) (sExt i f) := by
  refine ⟨weakS (ps_expr (pe_bm PySem.F.plainAttrs_list PySem.F.slot_list_extend PySem.F.type_list_extend mt_extend ho (pa_cons he.pe pa_nil hs) hbase hfew hline hs hplain) hw) fun D σ H ⟨B, E, F, r, o⟩ => ?_⟩
  unfold sExt at o
  have hc : lstAt (slot E i) = true := Classical.byContradiction fun hc => by
    rw [if_neg hc] at o
    exact o.elim
  rw [if_pos hc] at o
  obtain ⟨xs, k0, e0⟩ := lstAt_of hc
  obtain ⟨l, vs0, f0, q1, q2, q3, q4⟩ := lst_slot r.rep e0
  refine ⟨.ref l, q1, .inl ⟨rfl, vs0, .inl (.inl q3)⟩, ?_⟩
  refine seqS r o fun rs v H1 fp e1 s1 g1 o1 => ?_
  have p1 := g1.rep
  unfold sExt1 at o1
  simp only [e0] at o1
  cases ed : rs.d <;> simp only [ed] at o1 <;> first | exact o1.elim | skip
  rename_i zs
  by_cases hk : k0 = .shr
  · rw [if_pos hk] at o1
    exact o1.elim
  rw [if_neg hk] at o1
  have hl : (flatL zs && decide (xs.length + zs.length ≤ 1000000)) = true := Classical.byContradiction fun hl => by
    rw [if_neg hl] at o1
    exact o1.elim
  rw [if_pos hl] at o1
  simp only [Bool.and_eq_true, decide_eq_true_eq] at hl
  rw [ed] at p1
  simp only [Rep] at p1
  obtain ⟨b, vs2, f2, rfl, z3, z4, _⟩ := p1
  have hf2 := flat_reps z4 hl.1
  subst hf2
  have r1 := r.same s1
  have y3 := s1 _ _ q3
  have y4 := q4.same s1
  refine ⟨l, b, vs0, vs2, rfl, rfl, y3, z3, (by
    rw [y4.len, z4.len]
    have : sizeLine = 16777216 := by decide
    omega), ?_⟩
  have kp := Kp.upd (o := HO.lst (vs0 ++ vs2)) (H := H1) (a := l) ⟨_, y3, rfl⟩
  have ki : kd E i = k0 := by
    unfold kd
    rw [e0]
  obtain ⟨lo, lf⟩ := root_of r1 (by rw [ki]; exact hk) q2
  refine o1 σ _ _ (r1.write e0 hk q2 q1 rfl Hand.none (f' := f0) (fun a ha => .inl ha) (by simp) ?_)
  simp only [Rep]
  refine ⟨l, vs0 ++ vs2, f0, rfl, upd_same, ?_, rfl⟩
  have := (RepL.kp kp _ _ _ y4 (not_in lf)).app (RepL.kp kp _ _ _ z4 (fun _ z => nomatch z))
  simpa using this
/-! ### x.insert(0, y) -/
def gIns (a b : Dat) : Option Dat := match a with
  | .lst xs => if xs.length ≤ 1000000 then some (.lst (b :: xs)) else none
  | _ => none
theorem es_insert0 {j0 : Nat} {p0 : Pos} (ho : PE X o (tVar i)) (he : Ev X W e f) (hbase : attributeBase o "insert" X.env (eval o X.env) = eval o X.env := by rfl)
    (hfew : ((backTo cpos (starEach [.Constant (.int 0) j0 p0, e] X.env)).all (fun x => !x.1) && (backToKw cpos (keywordEach [] X.env)).all (fun x => x.1.isSome) && decide (([.Constant (.int 0) j0 p0, e] : List Expr).length + ([] : List Keyword).length + (if ([] : List Keyword).isEmpty then 0 else 1) < 30)) = true := by rfl)
    (hline : (apos.endLine == cpos.line) = true := by rfl) (hs0 : starEach [.Constant (.int 0) j0 p0, e] X.env = (false, eval (.Constant (.int 0) j0 p0) X.env) :: starEach [e] X.env := by rfl) (hs : starEach [e] X.env = (false, eval e X.env) :: starEach [] X.env := by rfl) (hplain : (backTo cpos (starEach [e] X.env)).any (·.1) = false := by rfl) (hw : swapsWith (.Call (.Attribute o "insert" apos) [.Constant (.int 0) j0 p0, e] [] cpos) none pos.line X.env = pure false := by rfl) :
    Es X W (.Expr (.Call (.Attribute o "insert" apos) [.Constant (.int 0) j0 p0, e] [] cpos) pos) (sMut lstAt i gIns f) := by
  refine ⟨weakS (ps_expr (pe_bm PySem.F.plainAttrs_list PySem.F.slot_list_insert PySem.F.type_list_insert mt_insert ho (pa_cons pe_int (pa_cons he.pe pa_nil hs) hs0) hbase hfew hline hs0 hplain) hw) fun D σ H ⟨B, E, F, r, o⟩ => ?_⟩
  unfold sMut at o
  have hc : lstAt (slot E i) = true := Classical.byContradiction fun hc => by
    rw [if_neg hc] at o
    exact o.elim
  rw [if_pos hc] at o
  obtain ⟨xs0, k00, e0⟩ := lstAt_of hc
  obtain ⟨l0, vs0, f0, q1, q2, q3, q4⟩ := lst_slot r.rep e0
  refine ⟨.ref l0, q1, .inl ⟨rfl, vs0, .inl (.inl q3)⟩, ?_⟩
  refine seqS r o fun rs v H1 fp e1 s1 g1 o1 => ?_
  obtain ⟨d0, k0, d', E1, F1, k2, z1, z2, z3, r1, h1, fin⟩ := mut_run r s1 g1 o1
  unfold gIns at z3
  cases d0 <;> simp only at z3 <;> first | cases z3 | skip
  rename_i xs
  have hl : xs.length ≤ 1000000 := Classical.byContradiction fun hl => by
    rw [if_neg hl] at z3
    cases z3
  rw [if_pos hl] at z3
  injection z3 with z3
  subst z3
  obtain ⟨l, vs, f', y1, y2, y3, y4⟩ := lst_slot r1.rep z1
  have el : l = l0 := by
    rw [q1] at y1
    injection y1 with y1
    injection y1 with y1
    injection y1 with y1
    exact y1.symm
  subst el
  refine ⟨l, vs, 0, v, rfl, rfl, y3, by rw [y4.len]; exact size_lt hl, by decide, by decide, ?_⟩
  refine fin (.ref l) l f' (fp ++ f') _ y2 y1 rfl (fun a ha => (List.mem_append.mp ha).symm) (fun n => (List.perm_append_comm.nodup_iff).mp n) fun n1 n2 => ?_
  have kp := Kp.upd (o := HO.lst (v :: vs)) (H := H1) (a := l) ⟨_, y3, rfl⟩
  simp only [Rep]
  exact ⟨l, v :: vs, fp ++ f', rfl, upd_same, RepL.cons (Rep.kp kp _ _ _ h1.rep (not_in n2)) (RepL.kp kp _ _ _ y4 (not_in n1)), rfl⟩
/-! ### d[k] = v -/
def dRep : List Tx → List Dat → Tx → Dat → List Dat
  | k :: ks, e :: ds, x, d => (if k = x then d else e) :: dRep ks ds x d
  | _, _, _, _ => []
def vRep : List Tx → List V → Tx → V → List V
  | k :: ks, e :: vs, x, v => (if k = x then v else e) :: vRep ks vs x v
  | _, _, _, _ => []
theorem dRep_none : ∀ {ks : List Tx} {ds : List Dat} {x : Tx} {d : Dat}, x ∉ ks → ks.length = ds.length → dRep ks ds x d = ds
  | [], [], _, _, _, _ => rfl
  | [], _ :: _, _, _, _, h => by simp at h
  | _ :: _, [], _, _, _, h => by simp at h
  | k :: ks, e :: ds, x, d, hx, hl => by
    rw [List.mem_cons, not_or] at hx
    show (if k = x then d else e) :: _ = _
    rw [if_neg (fun z => hx.1 z.symm), dRep_none hx.2 (by simpa using hl)]
theorem vRep_none : ∀ {ks : List Tx} {ds : List V} {x : Tx} {d : V}, x ∉ ks → ks.length = ds.length → vRep ks ds x d = ds
  | [], [], _, _, _, _ => rfl
  | [], _ :: _, _, _, _, h => by simp at h
  | _ :: _, [], _, _, _, h => by simp at h
  | k :: ks, e :: ds, x, d, hx, hl => by
    rw [List.mem_cons, not_or] at hx
    show (if k = x then d else e) :: _ = _
    rw [if_neg (fun z => hx.1 z.symm), vRep_none hx.2 (by simpa using hl)]
theorem vRep_len : ∀ {ks : List Tx} {ds : List V} {x : Tx} {d : V}, ks.length = ds.length → (vRep ks ds x d).length = ks.length
  | [], [], _, _, _ => rfl
  | [], _ :: _, _, _, h => by simp at h
  | _ :: _, [], _, _, h => by simp at h
  | k :: ks, e :: ds, x, d, hl => by
    show (vRep ks ds x d).length + 1 = ks.length + 1
    rw [vRep_len (by simpa using hl)]
theorem any_kv : ∀ {ks : List Tx} {vs : List V} {x : Tx}, ks.length = vs.length → ((kvOf ks vs).any fun kv => decide (kv.1 = (Sum.inr (mkS x) : Key))) = decide (x ∈ ks)
  | [], [], _, _ => rfl
  | [], _ :: _, _, h => by simp at h
  | _ :: _, [], _, h => by simp at h
  | k :: ks, v :: vs, x, h => by
    show (decide ((Sum.inr (mkS k) : Key) = Sum.inr (mkS x)) || _) = _
    rw [any_kv (by simpa using h)]
    by_cases e : k = x
    · subst e
      simp
    · have e2 : ¬ (Sum.inr (mkS k) : Key) = Sum.inr (mkS x) := fun z => by
        injection z with z
        exact e (mkS_inj z)
      rw [decide_eq_false e2, Bool.false_or]
      by_cases h2 : x ∈ ks
      · rw [decide_eq_true h2, decide_eq_true (List.mem_cons_of_mem _ h2)]
      · rw [decide_eq_false h2, decide_eq_false (fun z => (List.mem_cons.mp z).elim (fun q => e q.symm) h2)]
theorem map_kv : ∀ {ks : List Tx} {vs : List V} {x : Tx} {v : V}, ks.length = vs.length → ((kvOf ks vs).map fun kv => if kv.1 = (Sum.inr (mkS x) : Key) then (kv.1, v) else kv) = kvOf ks (vRep ks vs x v)
  | [], [], _, _, _ => rfl
  | [], _ :: _, _, _, h => by simp at h
  | _ :: _, [], _, _, h => by simp at h
  | k :: ks, u :: vs, x, v, h => by
    show (if (Sum.inr (mkS k) : Key) = Sum.inr (mkS x) then ((Sum.inr (mkS k) : Key), v) else (Sum.inr (mkS k), u)) :: (kvOf ks vs).map _ = (Sum.inr (mkS k), if k = x then v else u) :: kvOf ks (vRep ks vs x v)
    rw [map_kv (by simpa using h)]
    by_cases e : k = x
    · subst e
      simp
    · have e2 : ¬ (Sum.inr (mkS k) : Key) = Sum.inr (mkS x) := fun z => by
        injection z with z
        exact e (mkS_inj z)
      rw [if_neg e2, if_neg e]
theorem kv_app : ∀ {ks : List Tx} {vs : List V} {x : Tx} {v : V}, ks.length = vs.length → kvOf ks vs ++ [((Sum.inr (mkS x) : Key), v)] = kvOf (ks ++ [x]) (vs ++ [v])
  | [], [], _, _, _ => rfl
  | [], _ :: _, _, _, h => by simp at h
  | _ :: _, [], _, _, h => by simp at h
  | k :: ks, u :: vs, x, v, h => by
    show _ :: (kvOf ks vs ++ _) = _ :: kvOf (ks ++ [x]) (vs ++ [v])
    rw [kv_app (by simpa using h)]
theorem put_reps {G : Glo} {H : Hp} {d : Dat} {v : V} {fp : List Addr} (hd : Rep G H d v fp) : ∀ {ks : List Tx} {ds : List Dat} {vs : List V} {f : List Addr} {x : Tx}, RepL G H ds vs f → ks.length = vs.length → (ks.Nodup ∧ x ∈ ks) ∨ fp = [] →
    ∃ f' g, RepL G H (dRep ks ds x d) (vRep ks vs x v) f' ∧ (g ++ f').Perm (f ++ fp)
  | [], ds, vs, f, x, r, hl, h => by
    cases vs with
    | cons _ _ => simp at hl
    | nil =>
      have hd0 : ds = [] := by
        have := r.len
        cases ds with
        | nil => rfl
        | cons _ _ => simp at this
      subst hd0
      rcases h with ⟨_, z⟩ | h
      · cases z
      · subst h
        exact ⟨[], f, RepL.nil, by simp⟩
  | k :: ks, ds, vs, f, x, r, hl, h => by
    cases ds with
    | nil =>
      simp only [RepL] at r
      rw [r.1] at hl
      simp at hl
    | cons e ds =>
      simp only [RepL] at r
      obtain ⟨u, us, fh, ft, rfl, rfl, r1, r2⟩ := r
      have hl2 : ks.length = us.length := by simpa using hl
      by_cases e1 : k = x
      · subst e1
        have s1 : dRep (k :: ks) (e :: ds) k d = d :: dRep ks ds k d := by
          show (if k = k then d else e) :: _ = _
          rw [if_pos rfl]
        have s2 : vRep (k :: ks) (u :: us) k v = v :: vRep ks us k v := by
          show (if k = k then v else u) :: _ = _
          rw [if_pos rfl]
        rw [s1, s2]
        rcases h with ⟨hn, _⟩ | h
        · have hk := (List.nodup_cons.mp hn).1
          rw [dRep_none hk (by rw [hl2, r2.len]), vRep_none hk hl2]
          refine ⟨fp ++ ft, fh, RepL.cons hd r2, ?_⟩
          rw [List.append_assoc]
          exact List.Perm.append_left fh List.perm_append_comm
        · subst h
          obtain ⟨f', g, h1, h2⟩ := put_reps hd (x := k) r2 hl2 (.inr rfl)
          refine ⟨[] ++ f', fh ++ g, RepL.cons hd h1, ?_⟩
          rw [List.nil_append, List.append_assoc, List.append_assoc]
          exact List.Perm.append_left fh h2
      · have s1 : dRep (k :: ks) (e :: ds) x d = e :: dRep ks ds x d := by
          show (if k = x then d else e) :: _ = _
          rw [if_neg e1]
        have s2 : vRep (k :: ks) (u :: us) x v = u :: vRep ks us x v := by
          show (if k = x then v else u) :: _ = _
          rw [if_neg e1]
        rw [s1, s2]
        obtain ⟨f', g, h1, h2⟩ := put_reps hd (x := x) r2 hl2 (h.imp (fun ⟨hn, hm⟩ => ⟨(List.nodup_cons.mp hn).2, (List.mem_cons.mp hm).resolve_left fun z => e1 z.symm⟩) id)
        refine ⟨fh ++ f', g, RepL.cons r1 h1, ?_⟩
        have : (g ++ (fh ++ f')).Perm (fh ++ (g ++ f')) := by
          rw [← List.append_assoc, ← List.append_assoc]
          exact List.Perm.append_right f' List.perm_append_comm
        refine this.trans ?_
        rw [List.append_assoc]
        exact List.Perm.append_left fh h2
def gPut (x : Tx) (a b : Dat) : Option Dat := match a with
  | .dic ks ds => if ks.length ≤ 1000000 then (if x ∈ ks then (if flat b = true ∨ ks.Nodup then some (.dic ks (dRep ks ds x b)) else none) else some (.dic (ks ++ [x]) (ds ++ [b]))) else none
  | _ => none
def sPut1 (i : Nat) (E : Sto) (r : Rs) (kr : Rs) : Res Fl := match kr.d with
  | .str x => sMut1 i (gPut x) E r
  | _ => .no
def sPut (i : Nat) (fk fv : Sto → Res Rs) : Sto → Res Fl := fun E => if dicAt (slot E i) then (fv E).bind fun r => (fk E).bind fun kr => sPut1 i E r kr else .no
theorem put_obj {G : Glo} {H : Hp} {l : Addr} {ks : List Tx} {ds : List Dat} {vs : List V} {f fp : List Addr} {x : Tx} {b d' : Dat} {v : V} (g : gPut x (.dic ks ds) b = some d') (hl : ks.length = vs.length) (h1 : H l = some (.dK (kvOf ks vs))) (r : RepL G H ds vs f) (hb : Rep G H b v fp) (n1 : l ∉ f) (n2 : l ∉ fp) :
    ∃ f' g', Rep G (upd H l (.dK (putK (kvOf ks vs) (Sum.inr (mkS x) : Key) v))) d' (.ref l) (l :: f') ∧ (g' ++ f').Perm (f ++ fp) ∧ (kvOf ks vs).length < sizeLine := by
  unfold gPut at g
  simp only at g
  have hz : ks.length ≤ 1000000 := Classical.byContradiction fun z => by
    rw [if_neg z] at g
    cases g
  rw [if_pos hz] at g
  have kp := Kp.upd (o := HO.dK (putK (kvOf ks vs) (Sum.inr (mkS x) : Key) v)) (H := H) (a := l) ⟨_, h1, rfl⟩
  have sz : (kvOf ks vs).length < sizeLine := by
    rw [kvOf_len hl]
    exact size_lt hz
  by_cases hx : x ∈ ks
  · rw [if_pos hx] at g
    have hc : flat b = true ∨ ks.Nodup := Classical.byContradiction fun z => by
      rw [if_neg z] at g
      cases g
    rw [if_pos hc] at g
    injection g with g
    subst g
    have hor : (ks.Nodup ∧ x ∈ ks) ∨ fp = [] := hc.elim (fun z => .inr (Rep.flat _ _ _ hb z)) fun z => .inl ⟨z, hx⟩
    obtain ⟨f', g', r1, pm⟩ := put_reps (x := x) hb r hl hor
    have ln : l ∉ f' := fun z => by
      have := pm.mem_iff.mp (List.mem_append_right _ z)
      rcases List.mem_append.mp this with q | q
      · exact n1 q
      · exact n2 q
    refine ⟨f', g', ?_, pm, sz⟩
    simp only [Rep]
    refine ⟨l, vRep ks vs x v, f', rfl, .inl ?_, (vRep_len hl).symm, RepL.kp kp _ _ _ r1 (not_in ln), rfl⟩
    rw [upd_same]
    unfold putK
    rw [any_kv hl, decide_eq_true hx, if_pos rfl, map_kv hl]
  · rw [if_neg hx] at g
    injection g with g
    subst g
    refine ⟨f ++ fp, [], ?_, by simp, sz⟩
    simp only [Rep]
    refine ⟨l, vs ++ [v], f ++ fp, rfl, .inl ?_, by simp [hl], (RepL.kp kp _ _ _ r (not_in n1)).app (RepL.one (Rep.kp kp _ _ _ hb (not_in n2))), rfl⟩
    rw [upd_same]
    unfold putK
    rw [any_kv hl, decide_eq_false hx, if_neg (by decide), kv_app hl]
theorem es_put (C : XOk k X) {ke value : Expr} {pos' : Pos} {fk fv : Sto → Res Rs} (ho : PE X o (tVar i)) (hk : Ev X W ke fk) (hv : Ev X W value fv) (hs : swapsWith value (some (.Subscript o ke pos')) pos.line X.env = pure false := by rfl) :
    Es X W (.Assign [.Subscript o ke pos'] value pos) (sPut i fk fv) := by
  refine ⟨weakS (ps_dput C.hu ho hk.pe hv.pe hs) fun D σ H ⟨B, E, F, r, o⟩ => ?_⟩
  unfold sPut at o
  have hc : dicAt (slot E i) = true := Classical.byContradiction fun hc => by
    rw [if_neg hc] at o
    exact o.elim
  rw [if_pos hc] at o
  obtain ⟨ks0, ds0, k00, e0⟩ := dicAt_of hc
  refine seqS r o fun rs v H1 fp e1 s1 g1 o1 => ?_
  obtain ⟨w0, q1, q2⟩ := r.rep.rep i _ _ e0
  simp only [Rep] at q2
  obtain ⟨l0, _, _, rfl, _⟩ := q2
  refine ⟨.ref l0, q1, ?_⟩
  refine seqS (r.same s1) o1 fun kr y H2 f2 e2 s2 g2 o2 => ?_
  have pk := g2.rep
  unfold sPut1 at o2
  cases ed : kr.d <;> simp only [ed] at o2 <;> first | exact o2.elim | skip
  rename_i x
  rw [ed] at pk
  have ey := rep_str pk
  subst ey
  obtain ⟨d0, k0, d', E1, F1, k2, z1, z2, z3, r1, h1, fin⟩ := mut_run r (s1.trans s2) (g1.same s2) o2
  cases d0 with
  | dic ks ds =>
    obtain ⟨l, vs, f', y1, y2, y3, y4, y5⟩ := dic_slot r1 z1 z2
    have el : l = l0 := by
      rw [q1] at y1
      injection y1 with y1
      injection y1 with y1
      injection y1 with y1
      exact y1.symm
    subst el
    have ki : kd E1 i = k0 := by
      unfold kd
      rw [z1]
    obtain ⟨lo, lf⟩ := root_of r1 (by rw [ki]; exact z2) y2
    obtain ⟨f3, g3, p1, p2, p3⟩ := put_obj z3 y4 y3 y5 h1.rep lf (h1.sp2 i l lo)
    refine ⟨l, _, rfl, DPut.k (k := Sum.inr (mkS x)) y3 p3, ?_⟩
    refine fin (.ref l) l f' f3 _ y2 y1 rfl (fun a ha => List.mem_append.mp (p2.mem_iff.mp (List.mem_append_right _ ha))) (fun n => ?_) fun n1 n2 => p1
    exact (List.nodup_append.mp (p2.nodup_iff.mpr n)).2.1
  | _ =>
    unfold gPut at z3
    simp only at z3
    cases z3
end
end PV

/-! PV22: dict displays, get, setdefault; max and min of two; index, count, replace. -/
namespace PV
open PySem PySem.Spec L2
section
variable {X : Cx} {W : WX} {k : Nat}
/-! ### {} and {k: v} -/
def fDic0 : Sto → Res Rs := fun _ => .ok ⟨.dic [] [], true, [], some []⟩
theorem ev_dic0 {pos : Pos} : Ev X W (.Dict [] [] pos) fDic0 := by
  refine ⟨weakE pe_dnewK fun σ H Q ⟨E, F, re, o⟩ => fun p hp => ?_⟩
  have wp : Wr (upd H p (.dK [])) p := ⟨_, upd_same, rfl⟩
  refine o _ _ [p] (same_new hp) ⟨?_, fun a ha => .inl (by rw [List.mem_singleton.mp ha]; exact hp), fun _ => ⟨p, [], rfl, hp, wp, (fun z => nomatch z)⟩, fun m em => ?_⟩
  · show Rep (glo X) (upd H p (.dK [])) (.dic [] []) (.ref p) [p]
    simp only [Rep]
    exact ⟨p, [], [], rfl, .inl upd_same, rfl, RepL.nil, rfl⟩
  · have : m = [] := by
      injection em with em
      exact em.symm
    subst this
    refine ⟨[p], by simp, by simp, fun a ha => ?_⟩
    rw [List.mem_singleton.mp ha]
    exact ⟨hp, wp⟩
def dic1 (kr vr : Rs) : Res Rs := match kr.d with
  | .str x => .ok ⟨.dic [x] [vr.d], true, vr.src, vr.mv⟩
  | _ => .no
def fDic1 (fk fv : Sto → Res Rs) : Sto → Res Rs := fun E => (fk E).bind fun kr => (fv E).bind fun vr => dic1 kr vr
theorem Out.fwd {H H2 : Hp} {F : Fp} {σ : L2.St} {o : Res Rs} {Q : VK} (h : Out X W H H F σ o Q) (s : Same H H2) : Out X W H2 H2 F σ o Q := by
  cases o with
  | no => exact h
  | exc c => exact fun C H' m s2 => h C H' m (s.trans s2)
  | ok r => exact fun v H' fp s2 g => h v H' fp (s.trans s2) (g.back s)
theorem ev_dic1 {a b : Expr} {pos : Pos} {fk fv : Sto → Res Rs} (hk : Ev X W a fk) (hv : Ev X W b fv) : Ev X W (.Dict [some a] [b] pos) (fDic1 fk fv) := by
  refine ⟨weakE (pe_disp (pps_cons hk.pe hv.pe pps_nil) rfl rfl (by simp) (by simp)) fun σ H Q ⟨E, F, re, o⟩ => fun p hp => ?_⟩
  have sp := same_new (o := HO.dK []) hp
  have op : (upd H p (.dK [])) p = some (.dK []) := upd_same
  refine seqE (re.same sp) (Same.refl _) (o.fwd sp) fun kr x H1 f1 e1 s1 g1 o1 => ?_
  refine seqE (re.same (sp.trans s1)) s1 o1 fun vr y H2 f2 e2 s2 g2 o2 => ?_
  have pk := g1.rep
  unfold fDic1 at o
  rw [e1, bind_ok, e2, bind_ok] at o
  unfold dic1 at o
  cases ed : kr.d <;> simp only [ed] at o <;> first | exact o.elim | skip
  rename_i x'
  rw [ed] at pk
  have ex := rep_str pk
  subst ex
  have hp2 := s2 _ _ (s1 _ _ op)
  refine ⟨hp2, [(Sum.inr (mkS x'), y)], rfl, by simp, ?_⟩
  have em : mergeK [] [((Sum.inr (mkS x') : Key), y)] = kvOf [x'] [y] := rfl
  rw [em]
  have nf : p ∉ f2 := fun z => by
    rcases g2.prv.src p z with q | ⟨i, _, q⟩
    · rw [op] at q
      cases q
    · exact re.trk i p q hp
  have wp2 : Wr H2 p := ⟨_, hp2, rfl⟩
  have kp := Kp.upd (o := HO.dK (kvOf [x'] [y])) wp2
  have wp : Wr (upd H2 p (.dK (kvOf [x'] [y]))) p := ⟨_, upd_same, rfl⟩
  have g3 := g2.back sp
  have sm : Same H (upd H2 p (.dK (kvOf [x'] [y]))) := fun c u e => by
    have hc : c ≠ p := fun z => by
      rw [z, hp] at e
      cases e
    rw [upd_ne hc]
    exact s2 _ _ (s1 _ _ (sp _ _ e))
  refine o _ _ (p :: f2) sm ⟨?_, fun a ha => ?_, fun _ => ⟨p, f2, rfl, hp, wp, nf⟩, fun m em => ?_⟩
  · show Rep (glo X) _ (.dic [x'] [vr.d]) (.ref p) (p :: f2)
    simp only [Rep]
    exact ⟨p, [y], f2, rfl, .inl upd_same, rfl, RepL.one (Rep.kp kp _ _ _ g2.rep (not_in nf)), rfl⟩
  · rcases List.mem_cons.mp ha with z | z
    · rw [z]
      exact .inl hp
    · exact g3.prv.src a z
  · obtain ⟨fr, q1, q2, q3⟩ := g3.prv.mv m em
    have nfr : p ∉ fr := fun z => nf (q1.mem_iff.mpr (by simp [z]))
    refine ⟨p :: fr, q1.cons p, List.nodup_cons.mpr ⟨nfr, q2⟩, fun a ha => ?_⟩
    rcases List.mem_cons.mp ha with z | z
    · rw [z]
      exact ⟨hp, wp⟩
    · refine ⟨(q3 a z).1, ?_⟩
      obtain ⟨u, e, w⟩ := (q3 a z).2
      have na : a ≠ p := fun y => nfr (by rw [← y]; exact z)
      exact ⟨u, by rw [upd_ne na]; exact e, w⟩
/-! ### d.get -/
def gGet1 (ra rb : Rs) : Res Rs := match ra.d, rb.d with
  | .dic ks ds, .str x => match dGet ks ds x with
    | some d => .ok (pick ra d)
    | none => .ok (rsF .non)
  | _, _ => .no
def fGet1 (fo fk : Sto → Res Rs) : Sto → Res Rs := fun E => (fo E).bind fun ra => match ra.d with
  | .dic _ _ => (fk E).bind fun rb => gGet1 ra rb
  | _ => .no
theorem ev_get1 (C : XOk k X) {o e : Expr} {apos cpos : Pos} {fo fk : Sto → Res Rs} (ho : Ev X W o fo) (he : Ev X W e fk) (m : M1 X o "get" apos e cpos) : Ev X W (.Call (.Attribute o "get" apos) [e] [] cpos) (fGet1 fo fk) := by
  refine ⟨weakE (pe_dget1 C.hu ho.pe he.pe m) fun σ H Q ⟨E, F, re, oo⟩ => ?_⟩
  refine seqE re (Same.refl H) oo fun ra x H1 f1 e1 s1 g1 o1 => ?_
  have p := g1.rep
  cases ed : ra.d <;> simp only [ed] at o1 <;> first | exact o1.elim | skip
  rename_i ks ds
  have p0 := p
  rw [ed] at p
  simp only [Rep] at p
  obtain ⟨a, vs, f', ex, hd, hl, rl, ef⟩ := p
  refine ⟨a, ex, .inl ⟨_, hd⟩, ?_⟩
  refine seqE (re.same s1) s1 o1 fun rb y H2 f2 e2 s2 g2 o2 => ?_
  have q := g2.rep
  unfold gGet1 at o2
  simp only [ed] at o2
  cases ee : rb.d <;> simp only [ee] at o2 <;> first | exact o2.elim | skip
  rename_i z
  rw [ee] at q
  have ey := rep_str q
  subst ey
  have hd2 : Rd H2 a (.dK (kvOf ks vs)) := hd.imp (s2 _ _) fun ⟨ob, h⟩ => ⟨ob, s2 _ _ h⟩
  have rl2 := rl.same s2
  have dv := dGet_val (ks := ks) z rl2 hl
  refine ⟨valV (kvOf ks vs) (Sum.inr (mkS z) : Key), .inl ⟨_, _, hd2, rfl, rfl⟩, ?_⟩
  cases eg : dGet ks ds z with
  | none =>
    rw [eg] at dv
    simp only [eg] at o2
    simp only at dv
    rw [dv]
    exact o2.flat mk_non
  | some d =>
    rw [eg] at dv
    simp only [eg] at o2
    obtain ⟨v, f, h1, h2, h3⟩ := dv
    rw [h1]
    exact pick_out (g1.same s2) h2 (fun b hb => by rw [ef]; exact List.mem_cons_of_mem _ (h3 b hb)) o2
def gGet2 (ra rb rc : Rs) : Res Rs := match ra.d, rb.d with
  | .dic ks ds, .str x => match dGet ks ds x with
    | some d => .ok (pick ra d)
    | none => .ok rc
  | _, _ => .no
def fGet2 (fo fk fd : Sto → Res Rs) : Sto → Res Rs := fun E => (fo E).bind fun ra => match ra.d with
  | .dic _ _ => (fk E).bind fun rb => (fd E).bind fun rc => gGet2 ra rb rc
  | _ => .no
theorem ev_get2 (C : XOk k X) {o e e2 : Expr} {apos cpos : Pos} {fo fk fd : Sto → Res Rs} (ho : Ev X W o fo) (he : Ev X W e fk) (hf : Ev X W e2 fd) (m : M2 X o "get" apos e e2 cpos) : Ev X W (.Call (.Attribute o "get" apos) [e, e2] [] cpos) (fGet2 fo fk fd) := by
  refine ⟨weakE (pe_dget2 C.hu ho.pe he.pe hf.pe m) fun σ H Q ⟨E, F, re, oo⟩ => ?_⟩
  refine seqE re (Same.refl H) oo fun ra x H1 f1 e1 s1 g1 o1 => ?_
  have p := g1.rep
  cases ed : ra.d <;> simp only [ed] at o1 <;> first | exact o1.elim | skip
  rename_i ks ds
  rw [ed] at p
  simp only [Rep] at p
  obtain ⟨a, vs, f', ex, hd, hl, rl, ef⟩ := p
  refine ⟨a, ex, .inl ⟨_, hd⟩, ?_⟩
  refine seqE (re.same s1) s1 o1 fun rb y H2 f2 e2 s2 g2 o2 => ?_
  refine seqE (re.same (s1.trans s2)) (s1.trans s2) o2 fun rc w H3 f3 e3 s3 g3 o3 => ?_
  have q := g2.rep
  unfold gGet2 at o3
  simp only [ed] at o3
  cases ee : rb.d <;> simp only [ee] at o3 <;> first | exact o3.elim | skip
  rename_i z
  rw [ee] at q
  have ey := rep_str q
  subst ey
  have hd2 : Rd H3 a (.dK (kvOf ks vs)) := hd.imp (fun h => s3 _ _ (s2 _ _ h)) fun ⟨ob, h⟩ => ⟨ob, s3 _ _ (s2 _ _ h)⟩
  have rl2 := rl.same (s2.trans s3)
  have dv := dGet_val (ks := ks) z rl2 hl
  refine ⟨valV (kvOf ks vs) (Sum.inr (mkS z) : Key), .inl ⟨_, _, hd2, rfl, rfl⟩, ?_⟩
  cases eg : dGet ks ds z with
  | none =>
    rw [eg] at dv
    simp only [eg] at o3
    simp only at dv
    rw [dv]
    exact o3 w H3 f3 (Same.refl H3) g3
  | some d =>
    rw [eg] at dv
    simp only [eg] at o3
    obtain ⟨v, f, h1, h2, h3⟩ := dv
    rw [h1]
    exact pick_out ((g1.same s2).same s3) h2 (fun b hb => by rw [ef]; exact List.mem_cons_of_mem _ (h3 b hb)) o3
/-! ### d.setdefault(k, v) as a statement -/
def sSetd1 (i : Nat) (E : Sto) (kr r : Rs) : Res Fl := match slot E i, kr.d with
  | some (.dic ks _, k0), .str x => if k0 = .shr then .no else if x ∈ ks then (if ks.length ≤ 1000000 then .ok (.nx E) else .no) else sMut1 i (gPut x) E r
  | _, _ => .no
def sSetd (i : Nat) (fk fv : Sto → Res Rs) : Sto → Res Fl := fun E => if dicAt (slot E i) then (fk E).bind fun kr => (fv E).bind fun r => sSetd1 i E kr r else .no
theorem val_has {G : Glo} {H : Hp} {ks : List Tx} {ds : List Dat} {vs : List V} {f : List Addr} {x : Tx} (r : RepL G H ds vs f) (hl : ks.length = vs.length) : (x ∈ ks → ∃ v, valV (kvOf ks vs) (Sum.inr (mkS x) : Key) = some v) ∧ (x ∉ ks → valV (kvOf ks vs) (Sum.inr (mkS x) : Key) = none) := by
  have dv := dGet_val (ks := ks) x r hl
  have dh := dGet_has (ks := ks) (ds := ds) x (by rw [hl, r.len])
  cases eg : dGet ks ds x with
  | none =>
    rw [eg] at dv dh
    refine ⟨fun z => ?_, fun _ => dv⟩
    rw [List.contains_iff_mem.mpr z] at dh
    cases dh
  | some d =>
    rw [eg] at dv dh
    obtain ⟨v, _, h, _⟩ := dv
    refine ⟨fun _ => ⟨v, h⟩, fun z => absurd (List.contains_iff_mem.mp dh.symm) z⟩
theorem es_setd (C : XOk k X) {i : Nat} {o e e2 : Expr} {apos cpos pos : Pos} {fk fv : Sto → Res Rs} (ho : PE X o (tVar i)) (hk : Ev X W e fk) (hv : Ev X W e2 fv) (m : M2 X o "setdefault" apos e e2 cpos) (hw : swapsWith (.Call (.Attribute o "setdefault" apos) [e, e2] [] cpos) none pos.line X.env = pure false := by rfl) :
    Es X W (.Expr (.Call (.Attribute o "setdefault" apos) [e, e2] [] cpos) pos) (sSetd i fk fv) := by
  refine ⟨weakS (ps_expr (pe_dsetd ho hk.pe hv.pe m) hw) fun D σ H ⟨B, E, F, r, o⟩ => ?_⟩
  unfold sSetd at o
  have hc : dicAt (slot E i) = true := Classical.byContradiction fun hc => by
    rw [if_neg hc] at o
    exact o.elim
  rw [if_pos hc] at o
  obtain ⟨ks0, ds0, k00, e0⟩ := dicAt_of hc
  obtain ⟨w0, q1, q2⟩ := r.rep.rep i _ _ e0
  simp only [Rep] at q2
  obtain ⟨l0, vv, ff, rfl, rd, hl0, rl0, ef0⟩ := q2
  refine ⟨.ref l0, q1, l0, rfl, .inl ⟨_, rd⟩, ?_⟩
  refine seqS r o fun kr y H1 f1 e1 s1 g1 o1 => ?_
  refine seqS (r.same s1) o1 fun rs v H2 fp e3 s2 g2 o2 => ?_
  have pk := g1.rep
  unfold sSetd1 at o2
  simp only [e0] at o2
  cases ed : kr.d <;> simp only [ed] at o2 <;> first | exact o2.elim | skip
  rename_i x
  rw [ed] at pk
  have ey := rep_str pk
  subst ey
  by_cases hk0 : k00 = .shr
  · rw [if_pos hk0] at o2
    exact o2.elim
  rw [if_neg hk0] at o2
  have r2 := r.same (s1.trans s2)
  obtain ⟨l, vs, f', y1, y2, y3, y4, y5⟩ := dic_slot r2 e0 hk0
  have el : l = l0 := by
    rw [q1] at y1
    injection y1 with y1
    injection y1 with y1
    injection y1 with y1
    exact y1.symm
  subst el
  obtain ⟨v1, v2⟩ := val_has (x := x) y5 y4
  by_cases hx : x ∈ ks0
  · rw [if_pos hx] at o2
    have hz : ks0.length ≤ 1000000 := Classical.byContradiction fun z => by
      rw [if_neg z] at o2
      exact o2.elim
    rw [if_pos hz] at o2
    obtain ⟨w, hw2⟩ := v1 hx
    refine ⟨_, Sum.inr (mkS x), y3, rfl, by rw [kvOf_len y4]; exact size_lt hz, fun _ _ => o2 σ H2 F r2, fun z => ?_⟩
    rw [hw2] at z
    cases z
  · rw [if_neg hx] at o2
    obtain ⟨d0, k0, d', E1, F1, k2, z1, z2, z3, r1, h1, fin⟩ := mut_run (r.same s1) s2 g2 o2
    cases d0 with
    | dic ks ds =>
      obtain ⟨l', vs', f2, u1, u2, u3, u4, u5⟩ := dic_slot r1 z1 z2
      have el : l' = l := by
        rw [q1] at u1
        injection u1 with u1
        injection u1 with u1
        injection u1 with u1
        exact u1.symm
      subst el
      have ki : kd E1 i = k0 := by
        unfold kd
        rw [z1]
      obtain ⟨lo, lf⟩ := root_of r1 (by rw [ki]; exact z2) u2
      obtain ⟨f3, g3, p1, p2, p3⟩ := put_obj z3 u4 u3 u5 h1.rep lf (h1.sp2 i l' lo)
      have fi := fin (.ref l') l' f2 f3 _ u2 u1 rfl (fun a ha => List.mem_append.mp (p2.mem_iff.mp (List.mem_append_right _ ha))) (fun n => (List.nodup_append.mp (p2.nodup_iff.mpr n)).2.1) fun n1 n2 => p1
      refine ⟨_, Sum.inr (mkS x), u3, rfl, p3, fun w hw3 => ?_, fun _ => fi⟩
      rw [u3] at y3
      injection y3 with y3
      injection y3 with y3
      rw [y3, v2 hx] at hw3
      cases hw3
    | _ =>
      unfold gPut at z3
      simp only at z3
      cases z3
/-! ### max(a, b), min(a, b) of numbers -/
def gMax2 (ra rb : Rs) : Res Rs := match ra.d, rb.d with
  | .int i, .int j => .ok (rsF (.int (if j > i then j else i)))
  | _, _ => .no
def gMin2 (ra rb : Rs) : Res Rs := match ra.d, rb.d with
  | .int i, .int j => .ok (rsF (.int (if j < i then j else i)))
  | _, _ => .no
theorem ev_fn2 {id : String} {x : Str} {p pos : Pos} {a b : Expr} {fa fb : Sto → Res Rs} {h : Int → Int → Int} {g : Rs → Rs → Res Rs} (hc : CallR X (.builtin id) (fun xs H Q => ∃ i j, xs = [.int i, .int j] ∧ Q (.int (h i j)) H)) (hg : ∀ ra rb, g ra rb = match ra.d, rb.d with
    | .int i, .int j => .ok (rsF (.int (h i j)))
    | _, _ => .no) (hgl : Gl X x) (hm : X.mg x = none) (hv : bootBuiltins x = some (.builtin id)) (ha : Ev X W a fa) (hb : Ev X W b fb) (hn : x ≠ "__name__") (hdb : (x == ("__debug__" : Str)) = false)
    (hs : starEach [a, b] X.env = (false, eval a X.env) :: starEach [b] X.env := by rfl) (hs2 : starEach [b] X.env = (false, eval b X.env) :: starEach [] X.env := by rfl) (hpl : (backTo pos (starEach [b] X.env)).any (·.1) = false := by rfl) : Ev X W (.Call (.Name x p) [a, b] [] pos) (fBin g fa fb) := by
  refine ⟨weakE (pe_callB hc hgl hm hv (pa_cons ha.pe (pa_cons hb.pe pa_nil hs2) hs) hn hdb hs hpl) fun σ H Q ⟨E, F, re, o⟩ => ?_⟩
  refine seqE re (Same.refl H) o fun ra x H1 f1 e1 s1 g1 o1 => ?_
  refine seqE (re.same s1) s1 o1 fun rb y H2 f2 e2 s2 g2 o2 => ?_
  rw [hg] at o2
  have pa := g1.rep
  have pb := g2.rep
  cases ea : ra.d <;> cases eb : rb.d <;> simp only [ea, eb] at o2 <;> first | exact o2.elim | skip
  rw [ea] at pa
  rw [eb] at pb
  exact ⟨_, _, by rw [rep_int pa, rep_int pb], o2.flat mk_int⟩
theorem ev_max2 (C : XOk k X) {p pos : Pos} {a b : Expr} {fa fb : Sto → Res Rs} (hm : X.mg "max" = none) (ha : Ev X W a fa) (hb : Ev X W b fb) (hgl : Gl X "max" := by rfl)
    (hs : starEach [a, b] X.env = (false, eval a X.env) :: starEach [b] X.env := by rfl) (hs2 : starEach [b] X.env = (false, eval b X.env) :: starEach [] X.env := by rfl) (hpl : (backTo pos (starEach [b] X.env)).any (·.1) = false := by rfl) : Ev X W (.Call (.Name "max" p) [a, b] [] pos) (fBin gMax2 fa fb) :=
  ev_fn2 (call_max2 C.calm) (fun _ _ => rfl) hgl hm (by decide +kernel) ha hb (by decide) (by decide) hs hs2 hpl
theorem ev_min2 (C : XOk k X) {p pos : Pos} {a b : Expr} {fa fb : Sto → Res Rs} (hm : X.mg "min" = none) (ha : Ev X W a fa) (hb : Ev X W b fb) (hgl : Gl X "min" := by rfl)
    (hs : starEach [a, b] X.env = (false, eval a X.env) :: starEach [b] X.env := by rfl) (hs2 : starEach [b] X.env = (false, eval b X.env) :: starEach [] X.env := by rfl) (hpl : (backTo pos (starEach [b] X.env)).any (·.1) = false := by rfl) : Ev X W (.Call (.Name "min" p) [a, b] [] pos) (fBin gMin2 fa fb) :=
  ev_fn2 (call_min2 C.calm) (fun _ _ => rfl) hgl hm (by decide +kernel) ha hb (by decide) (by decide) hs hs2 hpl
end
end PV

/-! PV23: unpacking, range of two, enumerate, zip. -/
namespace PV
open PySem PySem.Spec L2
section
variable {X : Cx} {W : WX} {k : Nat}
/-! ### a, b = e -/
def unpK (E : Sto) (kk : Kd) (is : List Nat) (ds : List Dat) : Option Sto := sPar.bindK is ds kk E
def sUnp1 (is : List Nat) (E : Sto) (r : Rs) : Res Fl := match r.d with
  | .tup ds => match sPar.bindK is ds (PV.take false r E).2 (PV.take false r E).1 with
    | some E' => .ok (.nx E')
    | none => .no
  | _ => .no
def sUnp (is : List Nat) (f : Sto → Res Rs) : Sto → Res Fl := fun E => (f E).bind (sUnp1 is E)
theorem gL_sets : ∀ {is : List Nat} {vs : List V} {σ : L2.St} {H : Hp} {Q : L2.St → Hp → Prop}, is.length = vs.length → Q (sets σ is vs) H → gL is vs σ H Q
  | [], [], σ, H, Q, _, h => ⟨rfl, h⟩
  | [], _ :: _, _, _, _, l, _ => by simp at l
  | _ :: _, [], _, _, _, l, _ => by simp at l
  | i :: is, v :: vs, σ, H, Q, l, h => ⟨v, vs, rfl, gL_sets (is := is) (vs := vs) (by simpa using l) h⟩
theorem bindK_len : ∀ {is : List Nat} {ds : List Dat} {kk : Kd} {E E' : Sto}, sPar.bindK is ds kk E = some E' → is.length = ds.length
  | [], [], _, _, _, _ => rfl
  | [], _ :: _, _, _, _, e => by simp only [sPar.bindK] at e; cases e
  | _ :: _, [], _, _, _, e => by simp only [sPar.bindK] at e; cases e
  | i :: is, d :: ds, kk, E, E', e => by
    simp only [sPar.bindK] at e
    by_cases hi : i < E.length ∧ i ∉ is
    · rw [if_pos hi] at e
      have := bindK_len e
      simp [this]
    · rw [if_neg hi] at e
      cases e
theorem es_unp (C : XOk k X) {is : List Nat} {es : List Expr} {e : Expr} {f : Sto → Res Rs} {kt : Nat} {pt pos : Pos} (he : Ev X W e f) (hg : PGs X es (gL is)) (hs : swapsWithSole [.Tuple es kt pt] e pos.line X.env = pure false := by rfl) (hw : swappedStores [.Tuple es kt pt] e X.env = pure none := by rfl)
    (h1 : (assignEach [.Tuple es kt pt] X.env).map (·.2) = [assign (.Tuple es kt pt) X.env] := by rfl) (hn : (assignEach es X.env).length = is.length := by rfl) (hst : (assignEach es X.env).findIdx? (·.1) = none := by rfl) :
    Es X W (.Assign [.Tuple es kt pt] e pos) (sUnp is f) := by
  refine ⟨weakS (ps_asg he.pe (pg_tup C.calm hg hn hst) hs hw h1) fun D σ H ⟨B, E, F, r, o⟩ => seqS r o fun rs v H1 fp e1 s1 g o1 => ?_⟩
  have p := g.rep
  unfold sUnp1 at o1
  cases ed : rs.d <;> simp only [ed] at o1 <;> first | exact o1.elim | skip
  rename_i ds
  rw [ed] at p
  simp only [Rep] at p
  obtain ⟨a, vs, rfl, hq, rl⟩ := p
  cases eb : sPar.bindK is ds (PV.take false rs E).2 (PV.take false rs E).1 with
  | none =>
    simp only [eb] at o1
    exact o1.elim
  | some E' =>
    simp only [eb] at o1
    obtain ⟨F1, r1, hd⟩ := r.take false s1 g
    have hl := bindK_len eb
    have dp : ∀ {α : Prop}, (PV.take false rs E).2 = .deep → (∀ x ∈ fp, x ∈ owK (PV.take false rs E).2 fp) := fun z x hx => by
      rw [z]
      exact hx
    obtain ⟨F', r'⟩ := put_all r1 rl (fun z => ⟨hd.nod z, fun x hx => hd.own x (dp (α := True) z x hx)⟩) (fun z x hx => hd.sp1 x (dp (α := True) z x hx)) (fun z t ht x hx => hd.tmp t ht x (dp (α := True) z x hx)) hd.sp2 hd.prv eb
    exact ⟨a, vs, rfl, hq, by rw [rl.len, hl], gL_sets (by rw [rl.len, hl]) (o1 _ H1 F' r')⟩
/-! ### targets of several names -/
theorem tg_many (C : XOk k X) {is : List Nat} {es : List Expr} {kt : Nat} {pt : Pos} (hg : PGs X es (gL is)) (hn : (assignEach es X.env).length = is.length := by rfl) (hst : (assignEach es X.env).findIdx? (·.1) = none := by rfl) : PG X (.Tuple es kt pt) (gT X.K (.many is)) :=
  pg_tup C.calm hg hn hst
theorem tg_cons (C : XOk k X) {i : Nat} {is : List Nat} {x : Str} {es : List Expr} {pos : Pos} (h2 : PGs X es (gL is)) (hi : X.N[i]? = some x := by rfl) (hx : Loc X.env.scope x := by first | exact Or.inl rfl | exact Or.inr rfl) (hf : X.fn x = true ∨ X.env.scope.names.lookup x = some .local := by first | exact .inl rfl | exact .inr rfl)
    (hs : (assignEach (.Name x pos :: es) X.env).map (·.2) = assign (.Name x pos) X.env :: (assignEach es X.env).map (·.2) := by rfl) : PGs X (.Name x pos :: es) (gL (i :: is)) :=
  pgs_cons (pg_name C.nd hi hx hf) h2 hs
theorem tg_nil : PGs X [] (gL []) := pgs_nil
/-! ### range(a, b) -/
def gRange2 (ra rb : Rs) : Res (List Dat × List Nat) := match ra.d, rb.d with
  | .int i, .int j => if -1000000 ≤ i ∧ i ≤ 1000000 ∧ -1000000 ≤ j ∧ j ≤ 1000000 then .ok ((List.range (j - i).toNat).map (fun (n : Nat) => Dat.int (i + n)), []) else .no
  | _, _ => .no
def iRange2 (fa fb : Sto → Res Rs) : Sto → Res (List Dat × List Nat) := fun E => (fa E).bind fun ra => (fb E).bind fun rb => gRange2 ra rb
theorem ei_range2 {tg a b : Expr} {p pos : Pos} {fa fb : Sto → Res Rs} (hm : X.mg "range" = none) (ha : Ev X W a fa) (hb : Ev X W b fb) (hg : Gl X "range" := by rfl) (hs : starEach [a, b] X.env = [(false, eval a X.env), (false, eval b X.env)] := by rfl) (hs1 : starEach [a, b] X.env = (false, eval a X.env) :: starEach [b] X.env := by rfl) (hs2 : starEach [b] X.env = [(false, eval b X.env)] := by rfl) (hs3 : starEach [b] X.env = (false, eval b X.env) :: starEach [] X.env := by rfl) : Ei X W tg (.Call (.Name "range" p) [a, b] [] pos) (iRange2 fa fb) := by
  refine ⟨weakI (pi_range2 hg hm (pa_cons ha.pe (pa_cons hb.pe pa_nil hs3) hs1) hs hs2) fun σ H R ⟨E, F, re, o⟩ => ?_⟩
  refine seqI (kk := fun ra => (fb E).bind fun rb => gRange2 ra rb) re o fun r v H1 fp e1 s1 g o1 => ?_
  have o1' : (match (fb E).bind (gRange2 r) with
      | .ok (items, src) => ∀ J H2 fp Gd, Same H1 H2 → ItOk (glo X) H1 F items src J H2 fp Gd → R J H2
      | .exc c => ∀ C H', X.mg (mkS c) = some (.ref C) → Same H1 H' → W (.ref C) none σ H'
      | .no => False) := by
    have e : ((fb E).bind fun rb => gRange2 r rb) = (fb E).bind (gRange2 r) := rfl
    rw [e] at o1
    cases er : (fb E).bind (gRange2 r) with
    | no =>
      rw [er] at o1
      exact o1
    | exc c =>
      rw [er] at o1
      exact fun C H' m s => o1 C H' m (s1.trans s)
    | ok p =>
      rw [er] at o1
      obtain ⟨items, src⟩ := p
      exact fun J H2 fp Gd s it => o1 J H2 fp Gd (s1.trans s) ⟨it.now, it.walk, it.keep, it.trk, fun a ha => (it.src a ha).imp s1.free id, it.unl⟩
  refine seqI (kk := gRange2 r) (re.same s1) o1' fun r2 v2 H2 fp2 e2 s2 g2 o2 => ?_
  have p1 := g.rep
  have p2 := g2.rep
  unfold gRange2 at o2
  cases ed : r.d <;> cases ed2 : r2.d <;> simp only [ed, ed2] at o2 <;> first | exact o2.elim | skip
  rename_i i j
  rw [ed] at p1
  rw [ed2] at p2
  by_cases hj : -1000000 ≤ i ∧ i ≤ 1000000 ∧ -1000000 ≤ j ∧ j ≤ 1000000
  · rw [if_pos hj] at o2
    exact ⟨i, j, by rw [rep_int p1, rep_int p2], by omega, o2 _ H2 [] _ s2 itok_none⟩
  · rw [if_neg hj] at o2
    exact o2.elim
end
end PV

/-! PV24: enumerate, zip. -/
namespace PV
open PySem PySem.Spec L2
section
variable {X : Cx} {W : WX} {k : Nat}
/-- a list that is walked, and what keeps it -/
structure SqK (K : PySem.W.Frag) (a : Addr) (vs : List V) (fr : List Addr) (S : Hp → Prop) : Prop where
  sq : ∀ H, S H → SqL K H a vs
  kf : ∀ W H H', S H → Kp W H H' → (∀ b ∈ fr, b ∉ W) → S H'
  tr : ∀ H, S H → ∀ b ∈ fr, H b ≠ none
theorem sqk_of {G : Glo} {H : Hp} {d : Dat} {xs : List Dat} {v : V} {fp : List Addr} (r : Rep G H d v fp) (h : seqOf d = some xs) : ∃ a vs f fr S, v = .ref a ∧ SqK G.K a vs fr S ∧ S H ∧ RepL G H xs vs f ∧ fp = fr ++ f := by
  cases d <;> simp only [seqOf] at h <;> cases h
  · simp only [Rep] at r
    obtain ⟨a, vs, f, rfl, q, rl, e⟩ := r
    refine ⟨a, vs, f, [a], fun H => H a = some (.lst vs), rfl, ⟨fun H z => .inl (.inl z), fun W H H' z kf n => kf.lst a vs (n a (by simp)) z, fun H z b hb => ?_⟩, q, rl, e⟩
    rw [List.mem_singleton.mp hb, z]
    simp
  · simp only [Rep] at r
    obtain ⟨a, vs, rfl, q, rl⟩ := r
    exact ⟨a, vs, fp, [], fun H => RoL G.K H a vs, rfl, ⟨fun H z => z.elim (fun ⟨o, y⟩ => .inl (.inr ⟨o, y⟩)) .inr, fun W H H' z kf _ => z.imp (kf.frl a vs) id, (fun _ _ _ z => nomatch z)⟩, q, rl, rfl⟩
/-- a new pair of known parts -/
theorem pair_new {G : Glo} {H : Hp} {T : Addr} {x y : V} {d e : Dat} {f g : List Addr} (hT : H T = none) (hx : Rep G H d x f) (hy : Rep G H e y g) : Same H (upd H T (.tup [x, y])) ∧ Rep G (upd H T (.tup [x, y])) (.tup [d, e]) (.ref T) (f ++ g) := by
  have s := same_new (o := HO.tup [x, y]) hT
  refine ⟨s, ?_⟩
  simp only [Rep]
  exact ⟨T, [x, y], rfl, .inl (.inl upd_same), RepL.cons (hx.same s) (RepL.one (hy.same s))⟩
/-! ### enumerate(xs) -/
def enumD (n : Nat) : List Dat → List Dat
  | [] => []
  | d :: ds => .tup [.int n, d] :: enumD (n + 1) ds
theorem enumD_len : ∀ (ds : List Dat) (n : Nat), (enumD n ds).length = ds.length
  | [], _ => rfl
  | d :: ds, n => by
    show (enumD (n + 1) ds).length + 1 = ds.length + 1
    rw [enumD_len ds]
theorem enumD_at : ∀ (ds : List Dat) (n i : Nat), (enumD n ds)[i]? = ds[i]?.map fun d => .tup [.int ((n + i : Nat) : Int), d]
  | [], _, i => by simp [enumD]
  | d :: ds, n, 0 => rfl
  | d :: ds, n, i + 1 => by
    show (enumD (n + 1) ds)[i]? = _
    rw [enumD_at ds (n + 1) i]
    have : n + 1 + i = n + (i + 1) := by omega
    rw [this]
    rfl
def gEnum (r : Rs) : Res (List Dat × List Nat) := match seqOf r.d with
  | some xs => .ok (enumD 0 xs, r.src)
  | none => .no
def iEnumF (f : Sto → Res Rs) : Sto → Res (List Dat × List Nat) := fun E => (f E).bind gEnum
theorem ei_enum {e : Expr} {elts : List Expr} {kk : Nat} {tpos p pos : Pos} {f : Sto → Res Rs} (hm : X.mg "enumerate" = none) (h : Ev X W e f) (hg : Gl X "enumerate" := by rfl) (hs : starEach [e] X.env = [(false, eval e X.env)] := by rfl) (hs1 : starEach [e] X.env = (false, eval e X.env) :: starEach [] X.env := by rfl) :
    Ei X W (.Tuple elts kk tpos) (.Call (.Name "enumerate" p) [e] [] pos) (iEnumF f) := by
  refine ⟨weakI (pi_enum hg hm (pa_cons h.pe pa_nil hs1) hs) fun σ H R ⟨E, F, re, o⟩ => ?_⟩
  refine seqI (kk := gEnum) re o fun r v H1 fp e1 s1 g o1 => ?_
  unfold gEnum at o1
  cases es : seqOf r.d with
  | none =>
    simp only [es] at o1
  | some xs =>
    simp only [es] at o1
    obtain ⟨a, vs, f', fr, S, rfl, sk, hS, rl, ef⟩ := sqk_of g.rep es
    subst ef
    refine ⟨a, vs, rfl, sk.sq _ hS, ?_⟩
    refine o1 (Ite X.K a) H1 (fr ++ f') (fun H2 => S H2 ∧ RepL (glo X) H2 xs vs f') s1 (.ofKp ⟨hS, rl⟩ ?_ (fun W H2 H3 ⟨q1, q2⟩ kf n => ⟨sk.kf W H2 H3 q1 kf fun b hb => n b (by simp [hb]), RepL.kp kf _ _ _ q2 fun b hb => n b (by simp [hb])⟩) (fun H2 ⟨q1, q2⟩ b hb => ?_) (fun b hb => g.prv.src b hb))
    · have w := walk_enum (K := X.K) (a := a) (xs := vs)
      rw [rl.len, ← enumD_len xs 0] at w
      refine w.mono (fun H2 z => sk.sq _ z.1) fun n H2 x H3 hn z y => ?_
      obtain ⟨T, u, u', e1, e2, e3, e4, e5⟩ := y
      subst e1 e3
      have e4 : some (V.int (n : Nat)) = some u := e4
      have e5 : vs[n]? = some u' := e5
      rw [enumD_len] at hn
      obtain ⟨v', f3, q1, q2, q3⟩ := z.2.at (List.getElem?_eq_getElem hn)
      rw [e5] at q1
      injection q1 with q1
      subst q1
      injection e4 with e4
      subst e4
      obtain ⟨k1, k2⟩ := pair_new (G := glo X) (d := .int (n : Nat)) (f := []) e2 mk_int q2
      refine ⟨k1, .tup [.int (n : Nat), xs[n]], [] ++ f3, ?_, k2, fun b hb => by simp at hb; simp [q3 b hb]⟩
      rw [enumD_at, List.getElem?_eq_getElem hn]
      simp
    · rcases List.mem_append.mp hb with z | z
      · exact sk.tr _ q1 b z
      · exact RepL.trk _ _ _ q2 b z
/-! ### zip(xs, ys) -/
def zipD : List Dat → List Dat → List Dat
  | x :: xs, y :: ys => .tup [x, y] :: zipD xs ys
  | _, _ => []
theorem zipD_len : ∀ (xs ys : List Dat), (zipD xs ys).length = min xs.length ys.length
  | [], _ => by simp [zipD]
  | _ :: _, [] => by simp [zipD]
  | x :: xs, y :: ys => by
    show (zipD xs ys).length + 1 = min (xs.length + 1) (ys.length + 1)
    rw [zipD_len xs ys]
    omega
theorem zipD_at : ∀ {xs ys : List Dat} {i : Nat} {x y : Dat}, xs[i]? = some x → ys[i]? = some y → (zipD xs ys)[i]? = some (.tup [x, y])
  | [], _, i, _, _, h, _ => by simp at h
  | _ :: _, [], i, _, _, _, h => by simp at h
  | x :: xs, y :: ys, 0, _, _, h, h2 => by
    cases h
    cases h2
    rfl
  | x :: xs, y :: ys, i + 1, _, _, h, h2 => zipD_at (xs := xs) (ys := ys) (i := i) (by simpa using h) (by simpa using h2)
def gZip (ra rb : Rs) : Res (List Dat × List Nat) := match seqOf ra.d, seqOf rb.d with
  | some xs, some ys => .ok (zipD xs ys, ra.src ++ rb.src)
  | _, _ => .no
def iZipF (fa fb : Sto → Res Rs) : Sto → Res (List Dat × List Nat) := fun E => (fa E).bind fun ra => (fb E).bind fun rb => gZip ra rb
theorem ei_zip {e e2 : Expr} {elts : List Expr} {kk : Nat} {tpos p pos : Pos} {fa fb : Sto → Res Rs} (hm : X.mg "zip" = none) (ha : Ev X W e fa) (hb : Ev X W e2 fb) (hg : Gl X "zip" := by rfl) (hs : starEach [e, e2] X.env = (false, eval e X.env) :: starEach [e2] X.env := by rfl) (hs1 : starEach [e2] X.env = (false, eval e2 X.env) :: starEach [] X.env := by rfl) (hpl : (backTo pos (starEach [e2] X.env)).any (·.1) = false := by rfl) :
    Ei X W (.Tuple elts kk tpos) (.Call (.Name "zip" p) [e, e2] [] pos) (iZipF fa fb) := by
  refine ⟨weakI (pi_zip hg hm (pa_cons ha.pe (pa_cons hb.pe pa_nil hs1) hs) hs hpl) fun σ H R ⟨E, F, re, o⟩ => ?_⟩
  refine seqI (kk := fun ra => (fb E).bind fun rb => gZip ra rb) re o fun r v H1 fp e1 s1 g o1 => ?_
  refine ⟨E, F, re.same s1, ?_⟩
  cases er : fb E with
  | no =>
    rw [er] at o1
    exact o1
  | exc c =>
    rw [er] at o1
    exact fun C H' m s => o1 C H' m (s1.trans s)
  | ok r2 =>
    rw [er] at o1
    intro v2 H2 fp2 s2 g2
    have g2 := g2.back s1
    have g' := g.same s2
    simp only [bind_ok] at o1
    unfold gZip at o1
    cases es : seqOf r.d with
    | none =>
      simp only [es] at o1
    | some xs =>
      cases es2 : seqOf r2.d with
      | none =>
        simp only [es, es2] at o1
      | some ys =>
        simp only [es, es2] at o1
        obtain ⟨a, vs, f', fr, S, rfl, sk, hS, rl, ef⟩ := sqk_of g'.rep es
        obtain ⟨b, us, f2, fr2, S2, rfl, sk2, hS2, rl2, ef2⟩ := sqk_of g2.rep es2
        subst ef ef2
        refine ⟨a, b, vs, us, rfl, sk.sq _ hS, sk2.sq _ hS2, ?_⟩
        refine o1 (Itz X.K a b) H2 ((fr ++ f') ++ (fr2 ++ f2)) (fun H3 => (S H3 ∧ RepL (glo X) H3 xs vs f') ∧ (S2 H3 ∧ RepL (glo X) H3 ys us f2)) (s1.trans s2) (.ofKp ⟨⟨hS, rl⟩, ⟨hS2, rl2⟩⟩ ?_ (fun W H3 H4 ⟨⟨q1, q2⟩, ⟨q3, q4⟩⟩ kf n => ⟨⟨sk.kf W H3 H4 q1 kf fun c hc => n c (by simp [hc]), RepL.kp kf _ _ _ q2 fun c hc => n c (by simp [hc])⟩, ⟨sk2.kf W H3 H4 q3 kf fun c hc => n c (by simp [hc]), RepL.kp kf _ _ _ q4 fun c hc => n c (by simp [hc])⟩⟩) (fun H3 ⟨⟨q1, q2⟩, ⟨q3, q4⟩⟩ c hc => ?_) (fun c hc => ?_))
        · have w := walk_zip (K := X.K) (a := a) (b := b) (xs := vs) (ys := us) (n := (zipD xs ys).length) (by rw [zipD_len, rl.len, rl2.len])
          refine w.mono (fun H3 z => ⟨sk.sq _ z.1.1, sk2.sq _ z.2.1⟩) fun n H3 x H4 hn z y => ?_
          obtain ⟨T, u, u', e1, e2, e3, e4, e5⟩ := y
          subst e1 e3
          have e4 : vs[n]? = some u := e4
          have e5 : us[n]? = some u' := e5
          rw [zipD_len] at hn
          have hn1 : n < xs.length := by omega
          have hn2 : n < ys.length := by omega
          obtain ⟨v', f3, q1, q2, q3⟩ := z.1.2.at (List.getElem?_eq_getElem hn1)
          obtain ⟨v3, f4, q4, q5, q6⟩ := z.2.2.at (List.getElem?_eq_getElem hn2)
          rw [e4] at q1
          injection q1 with q1
          subst q1
          rw [e5] at q4
          injection q4 with q4
          subst q4
          obtain ⟨k1, k2⟩ := pair_new (G := glo X) e2 q2 q5
          refine ⟨k1, .tup [xs[n], ys[n]], f3 ++ f4, zipD_at (List.getElem?_eq_getElem hn1) (List.getElem?_eq_getElem hn2), k2, fun c hc => ?_⟩
          rcases List.mem_append.mp hc with z | z
          · simp [q3 c z]
          · simp [q6 c z]
        · rcases List.mem_append.mp hc with z | z
          · rcases List.mem_append.mp z with y | y
            · exact sk.tr _ q1 c y
            · exact RepL.trk _ _ _ q2 c y
          · rcases List.mem_append.mp z with y | y
            · exact sk2.tr _ q3 c y
            · exact RepL.trk _ _ _ q4 c y
        · rcases List.mem_append.mp hc with z | z
          · exact (g'.prv.src c z).imp id fun ⟨i, hi, w⟩ => ⟨i, List.mem_append_left _ hi, w⟩
          · exact (g2.prv.src c z).imp id fun ⟨i, hi, w⟩ => ⟨i, List.mem_append_right _ hi, w⟩
end
end PV

/-! PV25: index and count. -/
namespace PV
open PySem PySem.Spec L2
section
variable {X : Cx} {W : WX} {k : Nat}
/-! ### xs.index(x), xs.count(x), of texts -/
def gLIdx (ra rb : Rs) : Res Rs := match (seqOf ra.d).bind strsOf, rb.d with
  | some ns, .str x => if x ∈ ns then .ok (rsF (.int (ns.idxOf x))) else .no
  | _, _ => .no
def gLCnt (ra rb : Rs) : Res Rs := match (seqOf ra.d).bind strsOf, rb.d with
  | some ns, .str x => .ok (rsF (.int (ns.countP fun y => decide (y = x))))
  | _, _ => .no
/-- a method of a list of texts, of one text -/
def fLM (g : Rs → Rs → Res Rs) (fo f : Sto → Res Rs) : Sto → Res Rs := fun E => (fo E).bind fun ra => match (seqOf ra.d).bind strsOf with
  | some _ => (f E).bind fun rb => g ra rb
  | none => .no
theorem ev_lm {id : String} {name : Str} {apos cpos : Pos} {o e : Expr} {fo f : Sto → Res Rs} {r : V → List V → Hp → VK → Prop} {g : Rs → Rs → Res Rs} (slot : Slot "list" name id) (hty : typeOf (.builtin id) = pure (.type "method_descriptor")) (hm : MtR X id r)
    (hg : ∀ (H : Hp) (a : Addr) (ns : List Tx) (x : Tx) (ra rb : Rs) (Q : VK), (seqOf ra.d).bind strsOf = some ns → rb.d = .str x → SqL X.K H a ((ns.map mkS).map V.str) → (∀ (H0 : Hp) (F : Fp) (σ : L2.St), Out X W H0 H F σ (g ra rb) Q → r (.ref a) [.str (mkS x)] H Q))
    (hno : ∀ ra rb, (∀ x, rb.d ≠ .str x) → g ra rb = .no) (ho : Ev X W o fo) (he : Ev X W e f) (hbase : attributeBase o name X.env (eval o X.env) = eval o X.env)
    (hfew : ((backTo cpos (starEach [e] X.env)).all (fun x => !x.1) && (backToKw cpos (keywordEach [] X.env)).all (fun x => x.1.isSome) && decide (([e] : List Expr).length + ([] : List Keyword).length + (if ([] : List Keyword).isEmpty then 0 else 1) < 30)) = true)
    (hline : (apos.endLine == cpos.line) = true) (hs : starEach [e] X.env = (false, eval e X.env) :: starEach [] X.env) (hplain : (backTo cpos (starEach [] X.env)).any (·.1) = false) : Ev X W (.Call (.Attribute o name apos) [e] [] cpos) (fLM g fo f) := by
  refine ⟨weakE (pe_bm PySem.F.plainAttrs_list slot hty hm ho.pe (pa_cons he.pe pa_nil hs) hbase hfew hline hs hplain) fun σ H Q ⟨E, F, re, oo⟩ => ?_⟩
  refine seqE re (Same.refl H) oo fun ra x H1 f1 e1 s1 g1 o1 => ?_
  cases e2 : seqOf ra.d with
  | none =>
    simp only [e2, Option.bind] at o1
    exact o1.elim
  | some xs =>
    obtain ⟨a, vs, f', ex, hv, rr, z⟩ := g1.rep.seqL (seqOf_vw e2)
    cases e3 : strsOf xs with
    | none =>
      simp only [e2, Option.bind, e3] at o1
      exact o1.elim
    | some ns =>
      simp only [e2, Option.bind, e3] at o1
      obtain ⟨q1, _⟩ := strsOf_reps rr e3
      rw [q1] at hv
      subst ex
      refine ⟨.inl ⟨rfl, _, hv⟩, ?_⟩
      refine seqE (re.same s1) s1 o1 fun rb y H2 f2 e4 s2 g2 o2 => ?_
      have p := g2.rep
      by_cases hx : ∃ x, rb.d = .str x
      · obtain ⟨x, hx⟩ := hx
        rw [hx] at p
        have ey := rep_str p
        subst ey
        exact hg H2 a ns x ra rb Q (by simp only [e2, Option.bind, e3]) hx (s2.seq hv) H F σ o2
      · rw [hno ra rb fun x hx2 => hx ⟨x, hx2⟩] at o2
        exact o2.elim
theorem idx_spec : ∀ {ns : List Tx} {x : Tx}, x ∈ ns → ns[ns.idxOf x]? = some x ∧ ∀ m, m < ns.idxOf x → ∀ y, ns[m]? = some y → y ≠ x
  | n :: ns, x, h => by
    by_cases e : n = x
    · subst e
      have : (n :: ns).idxOf n = 0 := by simp
      rw [this]
      exact ⟨rfl, fun m hm => absurd hm (Nat.not_lt_zero m)⟩
    · have hx : x ∈ ns := (List.mem_cons.mp h).resolve_left fun z => e z.symm
      have : (n :: ns).idxOf x = ns.idxOf x + 1 := by
        rw [List.idxOf_cons]
        have : (n == x) = false := by simpa using e
        rw [this]
        rfl
      rw [this]
      obtain ⟨h1, h2⟩ := idx_spec hx
      refine ⟨by simpa using h1, fun m hm y hy => ?_⟩
      cases m with
      | zero =>
        cases hy
        exact e
      | succ m => exact h2 m (by omega) y (by simpa using hy)
theorem ev_lidx {apos cpos : Pos} {o e : Expr} {fo f : Sto → Res Rs} (ho : Ev X W o fo) (he : Ev X W e f) (hbase : attributeBase o "index" X.env (eval o X.env) = eval o X.env := by rfl)
    (hfew : ((backTo cpos (starEach [e] X.env)).all (fun x => !x.1) && (backToKw cpos (keywordEach [] X.env)).all (fun x => x.1.isSome) && decide (([e] : List Expr).length + ([] : List Keyword).length + (if ([] : List Keyword).isEmpty then 0 else 1) < 30)) = true := by rfl)
    (hline : (apos.endLine == cpos.line) = true := by rfl) (hs : starEach [e] X.env = (false, eval e X.env) :: starEach [] X.env := by rfl) (hplain : (backTo cpos (starEach [] X.env)).any (·.1) = false := by rfl) : Ev X W (.Call (.Attribute o "index" apos) [e] [] cpos) (fLM gLIdx fo f) := by
  refine ev_lm PySem.F.slot_list_index PySem.F.type_list_index mt_index (fun H a ns x ra rb Q e1 e2 hq H0 F σ o => ?_) (fun ra rb h => ?_) ho he hbase hfew hline hs hplain
  · unfold gLIdx at o
    simp only [e1, e2] at o
    by_cases hx : x ∈ ns
    · rw [if_pos hx] at o
      obtain ⟨h1, h2⟩ := idx_spec hx
      refine ⟨a, _, .str (mkS x), ns.idxOf x, .str (mkS x), rfl, rfl, hq, rfl, ?_, ?_, by simp [eqV], fun m z hm hz => ?_, o.flat mk_int⟩
      · rw [List.all_eq_true]
        intro v hv
        obtain ⟨y, _, rfl⟩ := List.mem_map.mp hv
        rfl
      · rw [List.map_map, List.getElem?_map, h1]
        rfl
      · rw [List.map_map, List.getElem?_map] at hz
        cases hy : ns[m]? with
        | none =>
          rw [hy] at hz
          cases hz
        | some y =>
          rw [hy] at hz
          injection hz with hz
          subst hz
          have hne := h2 m hm y hy
          show (mkS y == mkS x) = false
          exact beq_eq_false_iff_ne.mpr fun z => hne (mkS_inj z)
    · rw [if_neg hx] at o
      exact o.elim
  · unfold gLIdx
    cases (seqOf ra.d).bind strsOf with
    | none => rfl
    | some ns =>
      cases e : rb.d <;> first | rfl | exact absurd e (h _)
/-- xs.count(x) of texts, by the data -/
theorem mt_cntS (C : XOk k X) : MtR X "list.count" (fun x xs H Q => ∃ (a : Addr) (ns : List Str) (y : Str), x = .ref a ∧ xs = [.str y] ∧ SqL X.K H a (ns.map V.str) ∧ Q (.int (ns.countP fun z => decide (z = y) : Nat)) H) := by
  intro pins s σ H x xs v us Q I rx rs h
  obtain ⟨a, ns, y, rfl, rfl, hq, q⟩ := h
  obtain ⟨its, rv, pl, _⟩ := I.list hq
  cases (show v = Value.ref a from rx)
  obtain ⟨u, rfl, ru⟩ := vals1 rs
  obtain ⟨t, rfl⟩ := (show ∃ t, u = Value.str y t from ru)
  have hu := C.u64
  refine PySem.W.count_list_datum (α := Str) (xs := ns) (x := y) pl.isList (PySem.W.HoldAll.of_strs (by simpa using rv.strs)) (PySem.W.holds_str y t) (by
    have : PySem.W.Datum.depth Str = 0 := rfl
    rw [this]
    omega) ⟨.int _, H, I.tok _, ⟨_, rfl⟩, q⟩
theorem cntP_map : ∀ (ns : List Tx) (x : Tx), ((ns.map mkS).countP fun z => decide (z = mkS x)) = ns.countP fun y => decide (y = x)
  | [], _ => rfl
  | n :: ns, x => by
    rw [List.map_cons, List.countP_cons, List.countP_cons, cntP_map ns x]
    by_cases e : n = x
    · subst e
      simp
    · have : ¬ mkS n = mkS x := fun z => e (mkS_inj z)
      simp [e, this]
theorem ev_lcnt (C : XOk k X) {apos cpos : Pos} {o e : Expr} {fo f : Sto → Res Rs} (ho : Ev X W o fo) (he : Ev X W e f) (hbase : attributeBase o "count" X.env (eval o X.env) = eval o X.env := by rfl)
    (hfew : ((backTo cpos (starEach [e] X.env)).all (fun x => !x.1) && (backToKw cpos (keywordEach [] X.env)).all (fun x => x.1.isSome) && decide (([e] : List Expr).length + ([] : List Keyword).length + (if ([] : List Keyword).isEmpty then 0 else 1) < 30)) = true := by rfl)
    (hline : (apos.endLine == cpos.line) = true := by rfl) (hs : starEach [e] X.env = (false, eval e X.env) :: starEach [] X.env := by rfl) (hplain : (backTo cpos (starEach [] X.env)).any (·.1) = false := by rfl) : Ev X W (.Call (.Attribute o "count" apos) [e] [] cpos) (fLM gLCnt fo f) := by
  refine ev_lm PySem.F.slot_list_count PySem.F.type_list_count (mt_cntS C) (fun H a ns x ra rb Q e1 e2 hq H0 F σ o => ?_) (fun ra rb h => ?_) ho he hbase hfew hline hs hplain
  · unfold gLCnt at o
    simp only [e1, e2] at o
    refine ⟨a, ns.map mkS, mkS x, rfl, rfl, hq, ?_⟩
    rw [cntP_map]
    exact o.flat mk_int
  · unfold gLCnt
    cases (seqOf ra.d).bind strsOf with
    | none => rfl
    | some ns =>
      cases e : rb.d <;> first | rfl | exact absurd e (h _)
/-! ### s.index(t) -/
def gSIdx (a : Tx) (rb : Rs) : Res Rs := match rb.d with
  | .str b => match Builtin.Str.occurrences (mkS a) (mkS b) 0 (mkS a).length 1 with
    | i :: _ => .ok (rsF (.int i))
    | [] => .no
  | _ => .no
theorem mts_sidx : MtS1 X (fun x xs H Q => ∃ a b i rest, x = .str a ∧ xs = [.str b] ∧ Builtin.Str.occurrences a b 0 a.length 1 = i :: rest ∧ Q (.int (i : Nat)) H) gSIdx := by
  intro W H0 H F σ a rb y fb Q s0 tr g o
  have p := g.rep
  unfold gSIdx at o
  cases ed : rb.d <;> simp only [ed] at o <;> first | exact o.elim | skip
  rename_i b
  rw [ed] at p
  cases eo : Builtin.Str.occurrences (mkS a) (mkS b) 0 (mkS a).length 1 with
  | nil =>
    simp only [eo] at o
    exact o.elim
  | cons i rest =>
    simp only [eo] at o
    exact ⟨mkS a, mkS b, i, rest, rfl, by rw [rep_str p], eo, o.flat mk_int⟩
theorem ev_sidx {apos pos : Pos} {o e : Expr} {f fo : Sto → Res Rs} (ho : Ev X W o fo) (he : Ev X W e f) (hs : starEach [e] X.env = [(false, eval e X.env)] := by rfl) (hbase : attributeBase o "index" X.env (eval o X.env) = eval o X.env := by rfl) (hline : (apos.endLine == pos.line) = true := by rfl) : Ev X W (.Call (.Attribute o "index" apos) [e] [] pos) (fM1 gSIdx fo f) :=
  ev_m1 PySem.F.slot_str_index PySem.F.type_str_index mt_sindex mts_sidx ho he hs hbase hline
end
end PV

/-! PV26: replace: no token is booked; a token is out. -/
namespace PV
open PySem PySem.Spec PyProof.Rows L2
theorem booked_none {K : PySem.W.Frag} {h : Heap} (inK : K.In h) (lim : h.NoLimit) (no : PySem.W.nsIn K cStatics sharingNotToldKey = some none) : NoneBooked h := by
  obtain ⟨mc, ns, _⟩ := lim
  refine ⟨mc, ns, ?_⟩
  obtain ⟨ob, tab, fill, at0, dat, _, same⟩ := ns
  rw [← same sharingNotToldKey]
  unfold PySem.W.nsIn at no
  cases lk : K.lookup cStatics with
  | none => simp [lk] at no
  | some ob' =>
    have eo := inK _ _ lk
    rw [at0] at eo
    injection eo with eo
    subst eo
    rw [lk] at no
    obtain ⟨cl, od, dt, sl⟩ := ob
    simp only at dat
    subst dat
    simp only at no
    cases fd : tab.toList.find? (·.key.isStr sharingNotToldKey) with
    | some en => simp [fd] at no
    | none =>
      unfold nsFind findBy
      rw [← Array.find?_toList, fd]
      rfl
theorem booked_inv {X : Cx} {pins : List (Addr × Obj)} {σ : L2.St} {H : Hp} {s : Shared} (I : Inv X pins σ H s) (no : PySem.W.nsIn X.K cStatics sharingNotToldKey = some none) : NoneBooked s.heap := booked_none I.kIn I.nolimit no
/-! ### behind it a token is out -/
def PE1 (X : Cx) (e : Expr) (t : TE) : Prop :=
  ∀ (pins : List (Addr × Obj)) (s : Shared) (σ : L2.St) (H : Hp) (Q : VK), Inv X pins σ H s → t σ H Q → wpAny (model X.prog X.w) X.A (eval e X.env) (fun u s' => 1 ≤ s'.toks ∧ EP X pins σ Q u s') X.xe s
def PA1 (X : Cx) (es : List Expr) (t : TA) : Prop :=
  ∀ (pos : Pos) (pins : List (Addr × Obj)) (s : Shared) (σ : L2.St) (H : Hp) (Q : List V → Hp → Prop), Inv X pins σ H s → t σ H Q → wpAny (model X.prog X.w) X.A (spliced (backTo pos (starEach es X.env))) (fun us s' => 1 ≤ s'.toks ∧ AP X pins σ Q us s') X.xe s
def PS1 (X : Cx) (st : Stmt) (t : TS) : Prop :=
  ∀ (pins : List (Addr × Obj)) (s : Shared) (σ : L2.St) (H : Hp) (D : Ends), Inv X pins σ H s → t D σ H → wpAny (model X.prog X.w) X.A (exec st X.env) (fun f s' => 1 ≤ s'.toks ∧ SP X pins D f s') X.xe s
section
variable {X : Cx} {W : WX} {k : Nat}
theorem pe1_str {c : Str} {j pos} : PE1 X (.Constant (.str c) j pos) (tC (.str c)) := fun _ s _ H _ I h => Calls.Constant_str ⟨by show 1 ≤ s.toks + 1; omega, .str c, H, I.tok _, ⟨_, rfl⟩, h⟩
theorem pa1_cons {e : Expr} {es : List Expr} {te : TE} {ta : TA} (ha : PE1 X e te) (hr : PA X es ta) (hs : starEach (e :: es) X.env = (false, eval e X.env) :: starEach es X.env := by rfl) : PA1 X (e :: es) (tCons te ta) := by
  intro pos pins s σ H Q I h
  rw [hs]
  show wpAny _ _ (spliced ((false, eval e X.env) :: backTo pos (starEach es X.env))) _ _ s
  refine Calls.spliced_cons (thn (ha pins s σ H _ I h) fun u s1 ⟨h1, x, H1, I1, r1, q1⟩ => ?_)
  exact wpAny_mono (PySem.wpAny_toks (hr.run pos pins s1 σ H1 _ I1 q1)) (fun us s2 ⟨h2, xs, H2, I2, r2, q2⟩ => ⟨Nat.le_trans h1 h2, x :: xs, H2, I2, .cons r1 r2, q2⟩) fun _ _ z => z.2
theorem pe1_tup {es : List Expr} {ta : TA} {x1} {pos : Pos} (h : PA1 X es ta) : PE1 X (.Tuple es x1 pos) (tTup ta) := by
  intro pins s σ H Q I hq
  refine wpAny_Tuple_spliced (thn (h pos pins s σ H _ I hq) fun us s1 ⟨h1, xs, H1, I1, r, z, q⟩ => ⟨by rw [← r.length]; exact z, ?_⟩)
  have hf : H1 s1.heap.objs.size = none := I1.hok.fresh (Nat.le_refl _)
  refine ⟨h1, .ref s1.heap.objs.size, upd H1 s1.heap.objs.size (.tup xs), I1.laid (t' := s1.toks) (fun b u e => Heap.get?_push_of_some _ e) (Nat.le_refl _) ?_, rfl, q _ hf⟩
  exact ⟨z, us, r, ⟨_, Heap.get?_push_size _ rfl, rfl, _, rfl⟩⟩
theorem pe1_ix {a b : Expr} {ta tb : TE} {r : R2} {pos : Pos} (hr : IxR X r) (ha : PE1 X a ta) (hb : PE X b tb) (hs : PlainIx b) : PE1 X (.Subscript a b pos) (tOp r ta tb) := by
  intro pins s σ H Q I h
  refine Subscript_ (thn (ha pins s σ H _ I h) fun v s1 ⟨h1, x, H1, I1, r1, q1⟩ => ?_)
  refine wpAny_mono (PySem.wpAny_toks (hb.run pins s1 σ H1 _ I1 q1)) (fun u s2 ⟨h2, y, H2, I2, r2, q2⟩ => ?_) fun _ _ z => z.2
  exact wpAny_mono (PySem.wpAny_toks (hr a b pins s2 σ H2 x y v u Q I2 r1 r2 q2 (hs _ _))) (fun w s3 ⟨h3, q3⟩ => ⟨Nat.le_trans (Nat.le_trans h1 h2) h3, q3⟩) fun _ _ z => z.2
theorem ps1_set {i : Nat} {x : Str} {e : Expr} {te : TE} {pos pos' : Pos} (hN : X.N.Nodup) (hi : X.N[i]? = some x) (hx : Loc X.env.scope x) (he : PE1 X e te) (hs : swapsWith e (some (.Name x pos')) pos.line X.env = pure false) (hf : X.fn x = true ∨ X.env.scope.names.lookup x = some .local) :
    PS1 X (.Assign [.Name x pos'] e pos) (tAsg te (gName i)) := by
  intro pins s σ H D I h
  refine wpAny_Assign_Name (thn (he pins s σ H _ I h) fun v s1 ⟨h1, y, H1, I1, r1, q1⟩ => ?_) hs
  refine wpAny_mono (PySem.wpAny_toks (store_ok I1 hN hi hx r1 (Q := fun _ s2 => SP X pins D .next s2) (fun s2 I2 => ⟨_, H1, I2, q1⟩) hf)) (fun _ s2 ⟨h2, q2⟩ => ⟨Nat.le_trans h1 h2, q2⟩) fun _ _ z => z.2
theorem weakE1 {e : Expr} {t t' : TE} (p : PE1 X e t) (w : ∀ σ H Q, t' σ H Q → t σ H Q) : PE1 X e t' := fun pins s σ H Q I h => p pins s σ H Q I (w σ H Q h)
theorem weakA1 {es : List Expr} {t t' : TA} (p : PA1 X es t) (w : ∀ σ H Q, t' σ H Q → t σ H Q) : PA1 X es t' := fun pos pins s σ H Q I h => p pos pins s σ H Q I (w σ H Q h)
/-- t = ('..', ..)[i] -/
theorem e1_sel {c : Str} {x : Tx} {es : List Expr} {ix : Expr} {j : Nat} {p0 tp pos : Pos} {x1} {a : Sto → Res (List Rs)} {fx : Sto → Res Rs} (ha : Ea X W es a) (hx : Ev X W ix fx) (hc : c.cps.toList = x)
    (hs : starEach (.Constant (.str c) j p0 :: es) X.env = (false, eval (.Constant (.str c) j p0) X.env) :: starEach es X.env) (h1 : PlainIx ix) :
    PE1 X (.Subscript (.Tuple (.Constant (.str c) j p0 :: es) x1 tp) ix pos) (tEv X W (fBin gSubs (fTup (aCons (fC (.str x)) a)) fx)) := by
  refine weakE1 (pe1_ix ix_seq (pe1_tup (pa1_cons pe1_str ha.pa hs)) hx.pe h1) fun σ H Q ⟨E, F, re, o⟩ => ?_
  -- the tuple
  have o' : Out X W H H F σ ((aCons (fC (.str x)) a E).bind fun rs => if rs.length ≤ 1000000 then (fx E).bind fun rb => gSubs (rTup rs) rb else .no) Q := by
    have e : fBin gSubs (fTup (aCons (fC (.str x)) a)) fx E = (aCons (fC (.str x)) a E).bind fun rs => if rs.length ≤ 1000000 then (fx E).bind fun rb => gSubs (rTup rs) rb else .no := by
      unfold fBin fTup
      cases aCons (fC (.str x)) a E with
      | ok rs =>
        simp only [Res.bind]
        by_cases hl : rs.length ≤ 1000000
        · rw [if_pos hl, if_pos hl]
        · rw [if_neg hl, if_neg hl]
      | exc c => rfl
      | no => rfl
    rw [← e]
    exact o
  have key : tEa X W (aCons (fC (.str x)) a) σ H fun vs H1 => vs.length ≤ sizeLine ∧ ∀ p, H1 p = none → tEv X W fx σ (upd H1 p (.tup vs)) fun y H2 => rIx X.K (.ref p) y H2 Q := by
    refine seqA re o' fun rs vs H1 fp e s1 g o1 => ?_
    by_cases hl : rs.length ≤ 1000000
    · rw [if_pos hl] at o1
      refine ⟨sizeLine_le (by rw [g.len]; exact hl), fun p hp => ?_⟩
      have sn := same_new (o := HO.tup vs) hp
      have o2 : Out X W H (upd H1 p (.tup vs)) F σ ((fx E).bind fun rb => gSubs (rTup rs) rb) Q := o1.mono sn
      obtain ⟨p1, p2⟩ := g.prov (fun i => re.trk i)
      refine seqE ((re.same s1).same sn) (s1.trans sn) o2 fun rb y H2 f2 e2 s2 g2 o3 => ?_
      have gt : Gv (glo X) H F (rTup rs) (.ref p) H2 fp := by
        refine Gv.same ⟨?_, p1, (fun z => nomatch z), fun m em => ?_⟩ (s2)
        · show Rep (glo X) (upd H1 p (.tup vs)) (.tup (rs.map (·.d))) (.ref p) fp
          simp only [Rep]
          exact ⟨p, vs, rfl, .inl (.inl upd_same), g.reps.same sn⟩
        · obtain ⟨fr, q1, q2, q3⟩ := p2 m em
          exact ⟨fr, q1, q2, fun a ha => ⟨(q3 a ha).1, (q3 a ha).2.same sn⟩⟩
      unfold gSubs at o3
      have pb := g2.rep
      have ed : (rTup rs).d = .tup (rs.map (·.d)) := rfl
      cases eb : rb.d <;> simp only [ed, eb] at o3 <;> first | exact o3.elim | skip
      rename_i i
      rw [eb] at pb
      obtain ⟨a', vs', e5, h5, r5⟩ := gt.rep.seqT (xs := rs.map (·.d)) rfl
      cases e4 : dAt (rs.map (·.d)) i with
      | none =>
        simp only [e4] at o3
        exact o3.elim
      | some d =>
        simp only [e4] at o3
        obtain ⟨v, f, q1, q2, q3⟩ := dAt_vals r5 e4
        exact .inr (.inl ⟨a', vs', _, v, e5, rep_int pb, h5, q1, pick_out gt q2 q3 o3⟩)
    · rw [if_neg hl] at o1
      exact o1.elim
  -- the first item by hand
  obtain ⟨E0, F0, re0, o0⟩ := key
  unfold aCons fC at o0
  have key2 : tCons (tC (.str c)) (tEa X W a) σ H fun vs H1 => vs.length ≤ sizeLine ∧ ∀ p, H1 p = none → tEv X W fx σ (upd H1 p (.tup vs)) fun y H2 => rIx X.K (.ref p) y H2 Q := by
    refine ⟨E0, F0, re0, ?_⟩
    cases ea : a E0 with
    | no =>
      rw [ea] at o0
      exact o0.elim
    | exc cl =>
      rw [ea] at o0
      exact o0
    | ok rs =>
      rw [ea] at o0
      intro vs H1 fp s1 g
      have hr : Rep (glo X) H1 (.str x) (.str c) [] := by
        simp only [Rep]
        exact ⟨by rw [← hc, mkS_tl], trivial⟩
      exact o0 (.str c :: vs) H1 ([] ++ fp) s1 (.cons (Gv.flat hr) g fun a _ z => nomatch z)
  exact key2
end
end PV

/-! PV27: replace: t = ('..', ..)[i], then t = t.replace('x', s[j]). -/
namespace PV
open PySem PySem.Spec PyProof.Rows L2
def replT (x y z : Tx) : Tx := (Txt.replace (mkS x) (mkS y) (mkS z)).cps.toList
def fRepl (i j : Nat) (y : Tx) (fx : Sto → Res Rs) : Sto → Res Rs := fun E => match slot E i, slot E j with
  | some (.str x, _), some (.str z, _) => (fx E).bind fun r => match r.d with
    | .int n => match (ixN z.length n).bind (fun j => z[j]?) with
      | some c => if x.length ≤ 1000 ∧ z.length ≤ 1000000 then .ok (rsF (.str (replT x y [c]))) else .no
      | none => .no
    | _ => .no
  | _, _ => .no
section
variable {X : Cx} {W : WX} {k : Nat}
theorem pet_repl {i j : Nat} {tn sn y : Str} {yT : Tx} {j0 : Nat} {p1 p2 c0 q0 apos pos : Pos} {ix : Expr} {fx : Sto → Res Rs} (no : PySem.W.nsIn X.K cStatics sharingNotToldKey = some none) (hx : Ev X W ix fx)
    (hNi : X.N[i]? = some tn) (hvi : Vis X.env.scope tn) (hNj : X.N[j]? = some sn) (hvj : Vis X.env.scope sn) (hy : y.cps.toList = yT)
    (hdi : (tn == ("__debug__" : Str)) = false) (hci : (tn == ("__classdict__" : Str)) = false) (hdj : (sn == ("__debug__" : Str)) = false) (hcj : (sn == ("__classdict__" : Str)) = false)
    (hst : starEach [.Constant (.str y) j0 c0, .Subscript (.Name sn p2) ix q0] X.env = [(false, eval (.Constant (.str y) j0 c0) X.env), (false, eval (.Subscript (.Name sn p2) ix q0) X.env)])
    (hbase : attributeBase (.Name tn p1) "replace" X.env (eval (.Name tn p1) X.env) = eval (.Name tn p1) X.env) (hline : (apos.endLine == pos.line) = true) (hp : PlainIx ix) :
    PET X (.Call (.Attribute (.Name tn p1) "replace" apos) [.Constant (.str y) j0 c0, .Subscript (.Name sn p2) ix q0] [] pos) (tEv X W (fRepl i j yT fx)) := by
  intro pins s σ H Q h0 I ⟨E, F, re, o⟩
  unfold fRepl at o
  cases ei : slot E i with
  | none => simp only [ei] at o; exact o.elim
  | some pi =>
  obtain ⟨di, ki⟩ := pi
  cases ej : slot E j with
  | none =>
    cases di <;> simp only [ei, ej] at o <;> exact o.elim
  | some pj =>
  obtain ⟨dj, kj⟩ := pj
  cases di <;> simp only [ei, ej] at o <;> first | exact o.elim | skip
  rename_i x
  cases dj <;> simp only at o <;> first | exact o.elim | skip
  rename_i z
  obtain ⟨v1, hσ1, r1⟩ := re.rep i _ _ ei
  obtain ⟨v2, hσ2, r2⟩ := re.rep j _ _ ej
  have e1 := rep_str r1
  have e2 := rep_str r2
  subst e1 e2
  refine PySem.Call_method2 hbase hst hline (raw_name hNi hvi I hσ1 (fun v rv => ?_) hdi hci)
  obtain ⟨tx, rfl⟩ := rv
  refine ⟨"str", _, PySem.F.plainAttrs_str, PySem.F.slot_str_replace, PySem.F.type_str_replace, typeIs_str _ _ _, (fun _ e => nomatch e), Calls.callWith_builtin rfl (Calls.evalArgs_plain (Calls.spliced_cons (Calls.Constant_str (Calls.spliced_cons ?_))))⟩
  have I1 := I.tok (s.toks + 1)
  refine Subscript_ (raw_name hNj hvj I1 hσ2 (fun v rv => ?_) hdj hcj)
  obtain ⟨tz, rfl⟩ := rv
  have key : tEv X W fx σ H fun yv H1 => ∃ n c, yv = .int n ∧ (ixN z.length n).bind (fun j => z[j]?) = some c ∧ x.length ≤ 1000 ∧ z.length ≤ 1000000 ∧ Q (.str (mkS (replT x yT [c]))) H1 := by
    refine seqE re (Same.refl H) o fun r v H1 f1 e1 s1 g1 o1 => ?_
    have pr := g1.rep
    cases er : r.d <;> simp only [er] at o1 <;> first | exact o1.elim | skip
    rename_i n
    rw [er] at pr
    cases ec : (ixN z.length n).bind (fun j => z[j]?) with
    | none =>
      simp only [ec] at o1
      exact o1.elim
    | some c =>
      simp only [ec] at o1
      by_cases hl : x.length ≤ 1000 ∧ z.length ≤ 1000000
      · rw [if_pos hl] at o1
        exact ⟨n, c, rep_int pr, ec, hl.1, hl.2, o1.flat mk_str⟩
      · rw [if_neg hl] at o1
        exact o1.elim
  refine wpAny_mono (PySem.wpAny_toks (hx.pe.run pins _ σ H _ I1 key)) (fun u s2 ⟨hk, yv, H2, I2, r2', n, c, en, hc, hl1, hl2, q2⟩ => ?_) fun _ _ z => z.2
  subst en
  obtain ⟨tn', rfl⟩ := r2'
  have hk' : s.toks + 1 ≤ s2.toks := hk
  obtain ⟨jj, h1, h2, h3, h4, h5⟩ := atI_get (xs := (mkS z).cps.toList) (i := n) (v := c) (by rw [mkS_cps]; exact hc)
  have hl : (mkS z).cps.toList.length = (mkS z).length := by simp [Str.length]
  rw [hl] at h1 h4 h5
  have hzl : (mkS z).length ≤ 1000000 := by rw [mkS_len]; exact hl2
  refine tail_any (typeIs_str s2 (mkS z) tz) slot_str_getitem.lookup (PySem.P.getItem_str (c := c) (by
    have e1 : decide (n < -(2 ^ 63 : Int)) = false := decide_eq_false (by omega)
    have e2 : decide (n ≥ 2 ^ 63) = false := decide_eq_false (by omega)
    rw [e1, e2, Bool.or_false]) (by rw [h1]; simpa using h2) (Calls.spliced_nil ?_)) (hp _ _)
  refine PySem.SC.replaceA (show s.toks ≠ 0 by omega) (show s2.toks ≠ 0 by omega) (show s.toks ≠ s2.toks by omega) ?_ (fun t' kk => ?_) (booked_inv (I2.tok (s2.toks + 1)) no)
  · have hxl : (mkS x).length ≤ 1000 := by rw [mkS_len]; exact hl1
    have hcl : (⟨#[c]⟩ : Str).length = 1 := rfl
    rw [hcl]
    omega
  · refine ⟨.str (Txt.replace (mkS x) y ⟨#[c]⟩), H2, I2.tok kk, ⟨t', rfl⟩, ?_⟩
    have e : mkS (replT x yT [c]) = Txt.replace (mkS x) y ⟨#[c]⟩ := by
      unfold replT
      rw [mkS_tl, ← hy, mkS_tl]
      rfl
    rw [← e]
    exact q2
theorem pst_set {i : Nat} {x : Str} {e : Expr} {te : TE} {pos pos' : Pos} (hN : X.N.Nodup) (hi : X.N[i]? = some x) (hx : Loc X.env.scope x) (he : PET X e te) (hs : swapsWith e (some (.Name x pos')) pos.line X.env = pure false) (hf : X.fn x = true ∨ X.env.scope.names.lookup x = some .local) :
    PST X (.Assign [.Name x pos'] e pos) (tAsg te (gName i)) := by
  intro pins s σ H D h0 I h
  refine wpAny_Assign_Name (thn (he pins s σ H _ h0 I h) fun v s1 ⟨y, H1, I1, r1, q1⟩ => ?_) hs
  exact store_ok I1 hN hi hx r1 (fun s2 I2 => ⟨_, H1, I2, q1⟩) hf
theorem weakST {st : Stmt} {t t' : TS} (p : PST X st t) (w : ∀ D σ H, t' D σ H → t D σ H) : PST X st t' := fun pins s σ H D h0 I h => p pins s σ H D h0 I (w D σ H h)
theorem weakS1 {st : Stmt} {t t' : TS} (p : PS1 X st t) (w : ∀ D σ H, t' D σ H → t D σ H) : PS1 X st t' := fun pins s σ H D I h => p pins s σ H D I (w D σ H h)
theorem set_weak (keep : Bool) {i : Nat} {f : Sto → Res Rs} (D : Ends) (σ : L2.St) (H : Hp) (h : tEs X W (sSet keep i f) D σ H) : tAsg (tEv X W f) (gName i) D σ H := by
  obtain ⟨B, E, F, r, o⟩ := h
  refine seqS r o fun rs v H1 fp e1 s1 g o1 => ?_
  obtain ⟨F1, r1, h1⟩ := r.take keep s1 g
  by_cases hi : i < (PV.take keep rs E).1.length
  · rw [if_pos hi] at o1
    exact o1 _ H1 _ (r1.put h1 hi)
  · rw [if_neg hi] at o1
    exact o1.elim
theorem pss_two {st : Stmt} {rest : List Stmt} {t u : TS} (h1 : PS1 X st t) (h2 : PSsT X rest u) : PSs X (st :: rest) (tSeq t u) := by
  refine ⟨fun pins s σ H D I h => ?_⟩
  refine wpAny_execs_cons (thn (h1 pins s σ H { D with nx := u D } I h) fun f s1 q => ?_)
  obtain ⟨hk, q⟩ := q
  cases f with
  | next =>
    obtain ⟨σ', H', I', q⟩ := q
    exact h2 pins s1 σ' H' D hk I' q
  | ret v => exact q
  | brk => exact q
  | cont => exact q
theorem seq_weak {g h : Sto → Res Fl} (D : Ends) (σ : L2.St) (H : Hp) (hh : tEs X W (sSeq g h) D σ H) : tSeq (tEs X W g) (tEs X W h) D σ H := by
  obtain ⟨B, E, F, r, o⟩ := hh
  refine ⟨B, E, F, r, ?_⟩
  unfold sSeq at o
  cases e : g E with
  | no =>
    rw [e] at o
    exact o
  | exc c =>
    rw [e] at o
    exact o
  | ok fl =>
    rw [e] at o
    cases fl with
    | nx E' => exact fun σ' H' F' r' => ⟨B, E', F', r', o⟩
    | rt d dp => exact o
    | bk E' => exact o
    | ct E' => exact o
/-- t = ('..', ..)[i]; t = t.replace('..', s[j]); the rest -/
theorem ess_repl (C : XOk k X) (kp : Bool) {i j : Nat} {tn sn y c : Str} {yT x : Tx} {j0 j1 : Nat} {p0 p1 p2 c0 q0 tp spos apos pos pos1 pos2 pt1 pt2 : Pos} {x1} {ix ixe : Expr} {es : List Expr} {rest : List Stmt} {fx fx1 : Sto → Res Rs} {a : Sto → Res (List Rs)} {h : Sto → Res Fl}
    (no : PySem.W.nsIn X.K cStatics sharingNotToldKey = some none) (hx : Ev X W ix fx) (hx1 : Ev X W ixe fx1) (ha : Ea X W es a) (hb : Ess X W rest h)
    (hNi : X.N[i]? = some tn := by rfl) (hli : Loc X.env.scope tn := by first | exact Or.inl rfl | exact Or.inr rfl) (hvi : Vis X.env.scope tn := by first | exact Or.inl rfl | exact Or.inr (Or.inl rfl) | exact Or.inr (Or.inr rfl))
    (hNj : X.N[j]? = some sn := by rfl) (hvj : Vis X.env.scope sn := by first | exact Or.inl rfl | exact Or.inr (Or.inl rfl) | exact Or.inr (Or.inr rfl)) (hy : y.cps.toList = yT := by rfl) (hc : c.cps.toList = x := by rfl)
    (hdi : (tn == ("__debug__" : Str)) = false := by decide) (hci : (tn == ("__classdict__" : Str)) = false := by decide) (hdj : (sn == ("__debug__" : Str)) = false := by decide) (hcj : (sn == ("__classdict__" : Str)) = false := by decide)
    (hst : starEach [.Constant (.str y) j0 c0, .Subscript (.Name sn p2) ix q0] X.env = [(false, eval (.Constant (.str y) j0 c0) X.env), (false, eval (.Subscript (.Name sn p2) ix q0) X.env)] := by rfl)
    (hbase : attributeBase (.Name tn p1) "replace" X.env (eval (.Name tn p1) X.env) = eval (.Name tn p1) X.env := by rfl) (hline : (apos.endLine == pos.line) = true := by rfl) (hp : PlainIx ix := by exact fun _ _ => rfl)
    (hs1 : starEach (.Constant (.str c) j1 p0 :: es) X.env = (false, eval (.Constant (.str c) j1 p0) X.env) :: starEach es X.env := by rfl) (hp1 : PlainIx ixe := by exact fun _ _ => rfl)
    (hsw1 : swapsWith (.Subscript (.Tuple (.Constant (.str c) j1 p0 :: es) x1 tp) ixe spos) (some (.Name tn pt1)) pos1.line X.env = pure false := by rfl)
    (hsw2 : swapsWith (.Call (.Attribute (.Name tn p1) "replace" apos) [.Constant (.str y) j0 c0, .Subscript (.Name sn p2) ix q0] [] pos) (some (.Name tn pt2)) pos2.line X.env = pure false := by rfl)
    (hf : X.fn tn = true ∨ X.env.scope.names.lookup tn = some .local := by first | exact .inl rfl | exact .inr rfl) :
    Ess X W (.Assign [.Name tn pt1] (.Subscript (.Tuple (.Constant (.str c) j1 p0 :: es) x1 tp) ixe spos) pos1 :: .Assign [.Name tn pt2] (.Call (.Attribute (.Name tn p1) "replace" apos) [.Constant (.str y) j0 c0, .Subscript (.Name sn p2) ix q0] [] pos) pos2 :: rest)
      (sSeq (sSet kp i (fBin gSubs (fTup (aCons (fC (.str x)) a)) fx1)) (sSeq (sSet kp i (fRepl i j yT fx)) h)) := by
  have st1 : PS1 X (.Assign [.Name tn pt1] (.Subscript (.Tuple (.Constant (.str c) j1 p0 :: es) x1 tp) ixe spos) pos1) (tEs X W (sSet kp i (fBin gSubs (fTup (aCons (fC (.str x)) a)) fx1))) :=
    weakS1 (ps1_set C.nd hNi hli (e1_sel ha hx1 hc hs1 hp1) hsw1 hf) (set_weak kp)
  have st2 : PST X (.Assign [.Name tn pt2] (.Call (.Attribute (.Name tn p1) "replace" apos) [.Constant (.str y) j0 c0, .Subscript (.Name sn p2) ix q0] [] pos) pos2) (tEs X W (sSet kp i (fRepl i j yT fx))) :=
    weakST (pst_set C.nd hNi hli (pet_repl no hx hNi hvi hNj hvj hy hdi hci hdj hcj hst hbase hline hp) hsw2 hf) (set_weak kp)
  have two : PSsT X (.Assign [.Name tn pt2] (.Call (.Attribute (.Name tn p1) "replace" apos) [.Constant (.str y) j0 c0, .Subscript (.Name sn p2) ix q0] [] pos) pos2 :: rest) (tEs X W (sSeq (sSet kp i (fRepl i j yT fx)) h)) :=
    fun pins s σ H D h0 I hh => psst_cons st2 (PSsT.of hb.pss) pins s σ H D h0 I (seq_weak D σ H hh)
  exact ⟨weakSs (pss_two st1 two) fun D σ H hh => seq_weak D σ H hh⟩
end
end PV

/-! PV28: dict(..) of a dict, of pairs. -/
namespace PV
open PySem PySem.Spec PyProof.Rows L2
/-- pairs of a text and what cannot be written -/
def pairsOf : List Dat → Option (List (Tx × Dat))
  | [] => some []
  | .tup [.str k, v] :: r => if flat v then (pairsOf r).map ((k, v) :: ·) else none
  | _ => none
def dPut1 (a : List Tx × List Dat) (p : Tx × Dat) : List Tx × List Dat := if p.1 ∈ a.1 then (a.1, dRep a.1 a.2 p.1 p.2) else (a.1 ++ [p.1], a.2 ++ [p.2])
def dMerge (ps : List (Tx × Dat)) : List Tx × List Dat := ps.foldl dPut1 ([], [])
def gDict (r : Rs) : Res Rs := match r.d with
  | .dic ks ds => if flatL ds then .ok ⟨.dic ks ds, true, [], some []⟩ else .no
  | .lst xs => match pairsOf xs with
    | some ps => .ok ⟨.dic (dMerge ps).1 (dMerge ps).2, true, [], some []⟩
    | none => .no
  | _ => .no
theorem pairs_reps {G : Glo} {H : Hp} : ∀ {xs : List Dat} {vs : List V} {fp : List Addr} {ps : List (Tx × Dat)}, RepL G H xs vs fp → pairsOf xs = some ps →
    ∃ (as : List Addr) (us : List V), vs = as.map V.ref ∧ Paired (fun p kv => SqT G.K H p [kV kv.1, kv.2]) as (kvOf (ps.map (·.1)) us) ∧ RepL G H (ps.map (·.2)) us [] ∧ ps.length = us.length
  | [], vs, fp, ps, r, e => by
    simp only [RepL] at r
    injection e with e
    subst e
    exact ⟨[], [], r.1, .nil, RepL.nil, rfl⟩
  | x :: xs, vs, fp, ps, r, e => by
    unfold pairsOf at e
    split at e
    · rename_i h
      cases h
    · rename_i k v r' hx
      injection hx with hx1 hx2
      subst hx1 hx2
      by_cases hf : flat v = true
      · rw [if_pos hf] at e
        cases e2 : pairsOf xs with
        | none =>
          rw [e2] at e
          cases e
        | some ps' =>
          rw [e2] at e
          injection e with e
          subst e
          simp only [RepL] at r
          obtain ⟨w, vs', f, f', rfl, rfl, r1, r2⟩ := r
          obtain ⟨as, us, q1, q2, q3, q4⟩ := pairs_reps r2 e2
          simp only [Rep] at r1
          obtain ⟨a, ws, ew, hq, rl⟩ := r1
          simp only [RepL] at rl
          obtain ⟨w1, ws1, f1, g1, e3, e4, hk, w2, ws2, f2, g2, e5, e6, hv, e7, e8⟩ := rl
          subst e3 e5 e7
          have hk' := rep_str hk
          subst hk'
          have ef := Rep.flat _ _ _ hv hf
          subst ef
          refine ⟨a :: as, w2 :: us, by rw [q1, ew]; rfl, .cons hq q2, ?_, by simp [q4]⟩
          have := RepL.cons hv q3
          simpa using this
      · rw [if_neg hf] at e
        cases e
    · cases e
theorem put_flat {G : Glo} {H : Hp} {ks : List Tx} {ds : List Dat} {vs : List V} {x : Tx} {d : Dat} {v : V} (r : RepL G H ds vs []) (hl : ks.length = vs.length) (h : Rep G H d v []) :
    ∃ vs', putK (kvOf ks vs) (Sum.inr (mkS x) : Key) v = kvOf (dPut1 (ks, ds) (x, d)).1 vs' ∧ RepL G H (dPut1 (ks, ds) (x, d)).2 vs' [] ∧ (dPut1 (ks, ds) (x, d)).1.length = vs'.length := by
  unfold dPut1 putK
  simp only
  rw [any_kv hl]
  by_cases hx : x ∈ ks
  · rw [if_pos hx, decide_eq_true hx, if_pos rfl, map_kv hl]
    obtain ⟨f', g, r1, pm⟩ := put_reps (x := x) h r hl (.inr rfl)
    have : f' = [] := by
      have h2 : g ++ f' = [] := List.Perm.eq_nil (by simpa using pm)
      exact (List.append_eq_nil_iff.mp h2).2
    subst this
    exact ⟨_, rfl, r1, (vRep_len hl).symm⟩
  · rw [if_neg hx, decide_eq_false hx, if_neg (by decide), kv_app hl]
    refine ⟨vs ++ [v], rfl, ?_, by simp [hl]⟩
    have := r.app (RepL.one h)
    simpa using this
theorem merge_flat {G : Glo} {H : Hp} : ∀ {ps : List (Tx × Dat)} {us : List V} {a : List Tx × List Dat} {vs : List V}, RepL G H (ps.map (·.2)) us [] → ps.length = us.length → RepL G H a.2 vs [] → a.1.length = vs.length →
    ∃ vs', mergeK (kvOf a.1 vs) (kvOf (ps.map (·.1)) us) = kvOf (ps.foldl dPut1 a).1 vs' ∧ RepL G H (ps.foldl dPut1 a).2 vs' [] ∧ (ps.foldl dPut1 a).1.length = vs'.length
  | [], us, a, vs, r1, l1, r, l => by
    cases us with
    | nil => exact ⟨vs, rfl, r, l⟩
    | cons _ _ => simp at l1
  | p :: ps, us, a, vs, r1, l1, r, l => by
    cases us with
    | nil => simp at l1
    | cons u us =>
      have r1' : RepL G H (p.2 :: ps.map (·.2)) (u :: us) [] := r1
      simp only [RepL] at r1'
      obtain ⟨w, ws, f, f', e1, e2, h1, h2⟩ := r1'
      injection e1 with e1 e3
      subst e1 e3
      have ef : f = [] ∧ f' = [] := by
        have := e2.symm
        simpa using this
      obtain ⟨rfl, rfl⟩ := ef
      obtain ⟨vs1, q1, q2, q3⟩ := put_flat (ks := a.1) (ds := a.2) (x := p.1) r l h1
      obtain ⟨vs', z1, z2, z3⟩ := merge_flat (a := dPut1 a p) h2 (by simpa using l1) q2 q3
      refine ⟨vs', ?_, z2, z3⟩
      rw [List.foldl_cons, ← z1]
      show mergeK (putK (kvOf a.1 vs) (Sum.inr (mkS p.1)) u) (kvOf (ps.map (·.1)) us) = _
      rw [q1]
abbrev rDictA (X : Cx) : List V → Hp → VK → Prop := fun xs H Q => (∃ (a : Addr) (kvs : List (Key × V)), xs = [.ref a] ∧ Rd H a (.dK kvs) ∧ ∀ p, H p = none → Q (.ref p) (upd H p (.dK kvs))) ∨
  (∃ (a : Addr) (ps : List Addr) (kvs : List (Key × V)), xs = [.ref a] ∧ SqL X.K H a (ps.map V.ref) ∧ Paired (fun p kv => SqT X.K H p [kV kv.1, kv.2]) ps kvs ∧ ∀ p, H p = none → Q (.ref p) (upd H p (.dK (mergeK [] kvs))))
section
variable {X : Cx} {W : WX} {k : Nat}
theorem Gv.newD {G : Glo} {H0 H : Hp} {F : Fp} {ks : List Tx} {ds : List Dat} {vs : List V} {p : Addr} (s : Same H0 H) (r : RepL G H ds vs []) (hl : ks.length = vs.length) (hp : H p = none) :
    Gv G H0 F ⟨.dic ks ds, true, [], some []⟩ (.ref p) (upd H p (.dK (kvOf ks vs))) [p] := by
  have wp : Wr (upd H p (.dK (kvOf ks vs))) p := ⟨_, upd_same, rfl⟩
  have hn : H0 p = none := s.free hp
  refine ⟨?_, fun a ha => ?_, fun _ => ⟨p, [], rfl, hn, wp, by simp⟩, fun m em => ?_⟩
  · simp only [Rep]
    exact ⟨p, vs, [], rfl, .inl upd_same, hl, r.same (same_new hp), rfl⟩
  · rw [List.mem_singleton] at ha
    rw [ha]
    exact .inl hn
  · injection em with em
    subst em
    refine ⟨[p], by simp, by simp, fun a ha => ?_⟩
    rw [List.mem_singleton] at ha
    rw [ha]
    exact ⟨hn, wp⟩
theorem fns_dict : FnS X (rDictA X) gDict := by
  intro W H0 H F σ ra x fa Q s0 tr g o
  have p := g.rep
  unfold gDict at o
  cases ed : ra.d with
  | dic ks ds =>
    simp only [ed] at o
    rw [ed] at p
    by_cases hf : flatL ds = true
    · rw [if_pos hf] at o
      simp only [Rep] at p
      obtain ⟨a, vs, f, ex, hd, l, r, _⟩ := p
      subst ex
      have ef := RepL.flat _ _ _ r hf
      subst ef
      exact .inl ⟨a, _, rfl, hd, fun q hq => o _ _ _ (same_new hq) (Gv.newD s0 r l hq)⟩
    · rw [if_neg hf] at o
      exact o.elim
  | lst xs =>
    simp only [ed] at o
    obtain ⟨a, vs, f', ex, hv, rr, z⟩ := p.seqL (xs := xs) (by rw [ed]; rfl)
    subst ex
    cases e : pairsOf xs with
    | none =>
      simp only [e] at o
      exact o.elim
    | some ps =>
      simp only [e] at o
      obtain ⟨as, us, q1, q2, q3, q4⟩ := pairs_reps rr e
      subst q1
      obtain ⟨vs', z1, z2, z3⟩ := merge_flat (G := glo X) (H := H) (a := ([], [])) (vs := []) q3 q4 RepL.nil rfl
      refine .inr ⟨a, as, _, rfl, hv, q2, fun q hq => ?_⟩
      have z1' : mergeK [] (kvOf (ps.map (·.1)) us) = kvOf (dMerge ps).1 vs' := z1
      rw [z1']
      exact o _ _ _ (same_new hq) (Gv.newD s0 z2 z3 hq)
  | _ =>
    simp only [ed] at o
    exact o.elim
theorem ev_dict (C : XOk k X) {p pos : Pos} {e : Expr} {f : Sto → Res Rs} (hm : X.mg "dict" = none) (he : Ev X W e f) (hgl : Gl X "dict" := by rfl) (hs : starEach [e] X.env = (false, eval e X.env) :: starEach [] X.env := by rfl) : Ev X W (.Call (.Name "dict" p) [e] [] pos) (fOne gDict f) :=
  ev_ty1 (CallR.or call_dictD (call_dictP C.calm)) fns_dict hgl hm (by decide +kernel) he (by decide) (by decide) hs
end
end PV

/-! PV29: d[k].append(x), d[k].extend(xs): a list within a slot's dict. -/
namespace PV
open PySem PySem.Spec L2
/-- an object that a slot owns, not its root: written -/
theorem R.writeIn {G : Glo} {B : Fx} {E : Sto} {σ : L2.St} {H : Hp} {F : Fp} {i : Nat} {l : Addr} {d d' : Dat} {v : V} {o : HO} (r : R G B E σ H F) (hs : slot E i = some (d, .deep)) (hl : l ∈ F i) (hv : σ[i]? = some (some v)) (wo : wrO o = true)
    (hrep : Rep G (upd H l o) d' v (F i)) : R G B (E.set i (some (d', .deep))) σ (upd H l o) F := by
  have ki : kd E i = .deep := by
    unfold kd
    rw [hs]
  have hi : i < E.length := slot_lt hs
  have lo : l ∈ Ow E F i := by
    unfold Ow
    rw [ki]
    exact hl
  have lw := r.own i l lo
  have ln : ∀ j, j ≠ i → l ∉ F j := fun j hj => r.sep i j (fun e => hj e.symm) l lo
  have kp := Kp.upd (o := o) lw.1
  have wr : ∀ a, Wr H a → Wr (upd H l o) a := fun a ⟨u, e, w⟩ => by
    by_cases ha : a = l
    · subst ha
      exact ⟨o, upd_same, wo⟩
    · exact ⟨u, by rw [upd_ne ha]; exact e, w⟩
  have kk : ∀ j, kd (E.set i (some (d', Kd.deep))) j = kd E j := fun j => by
    rw [kd_set hi]
    by_cases hj : j = i
    · rw [if_pos hj, hj, ki]
    · rw [if_neg hj]
  have ow : ∀ j, Ow (E.set i (some (d', Kd.deep))) F j = Ow E F j := fun j => by
    unfold Ow
    rw [kk]
  refine ⟨⟨by rw [List.length_set]; exact r.rep.len, fun j dj kj e => ?_, fun j e => ?_⟩, fun j a ha => ?_, fun j e => ?_, fun j e => ?_, fun j m n a ha => ?_, r.pro, fun t ht => ⟨(r.pro t ht).keep [l] H _ (r.tmp t ht).1 (Kf.upd (o := o) lw.1) fun a ha => ?_, fun j a ha => ?_⟩, r.prv, fun b u e => ?_⟩
  · rw [slot_set hi] at e
    by_cases hj : j = i
    · rw [if_pos hj] at e
      injection e with e
      injection e with e1 e2
      subst hj e1
      exact ⟨v, hv, hrep⟩
    · rw [if_neg hj] at e
      obtain ⟨w, h1, h2⟩ := r.rep.rep j dj kj e
      exact ⟨w, h1, Rep.kp kp _ _ _ h2 fun a ha z => ln j hj (by
        rw [List.mem_singleton] at z
        rw [← z]
        exact ha)⟩
  · rw [slot_set hi] at e
    by_cases hj : j = i
    · rw [if_pos hj] at e
      cases e
    · rw [if_neg hj] at e
      exact r.rep.emp j e
  · rw [ow] at ha
    have := r.own j a ha
    exact ⟨wr a this.1, this.2⟩
  · rw [kk] at e
    exact r.nod j e
  · rw [kk] at e
    exact r.rot j e
  · rw [ow] at ha
    exact r.sep j m n a ha
  · intro z
    rw [List.mem_singleton] at z
    subst z
    exact (r.tmp t ht).2 i a lo ha
  · rw [ow] at ha
    exact (r.tmp t ht).2 j a ha
  · have hb : b ≠ l := fun z => by
      subst z
      rw [lw.2] at e
      cases e
    rw [upd_ne hb]
    exact r.frm b u e
/-- the list at x within a dict's values -/
theorem in_dict {G : Glo} {H : Hp} {x : Tx} {xs : List Dat} : ∀ {ks : List Tx} {ds : List Dat} {vs : List V} {f : List Addr}, RepL G H ds vs f → ks.length = vs.length → ks.Nodup → f.Nodup → dGet ks ds x = some (.lst xs) → flatL xs = true →
    ∃ a us, a ∈ f ∧ valV (kvOf ks vs) (Sum.inr (mkS x) : Key) = some (.ref a) ∧ H a = some (.lst us) ∧ RepL G H xs us [] ∧
      ∀ xs' us', RepL G (upd H a (.lst us')) xs' us' [] → RepL G (upd H a (.lst us')) (dRep ks ds x (.lst xs')) vs f
  | [], ds, vs, f, r, hl, nk, nf, hg, hf => by
    unfold dGet at hg
    cases hg
  | k :: ks, ds, vs, f, r, hl, nk, nf, hg, hf => by
    cases ds with
    | nil =>
      unfold dGet at hg
      cases hg
    | cons e ds =>
      simp only [RepL] at r
      obtain ⟨u, us, fh, ft, rfl, rfl, r1, r2⟩ := r
      have hl2 : ks.length = us.length := by simpa using hl
      have nk2 := List.nodup_cons.mp nk
      have nf2 := List.nodup_append.mp nf
      by_cases e1 : k = x
      · subst e1
        have e2 : e = .lst xs := by
          simp [dGet] at hg
          exact hg
        subst e2
        simp only [Rep] at r1
        obtain ⟨a, ws, f0, rfl, q1, q2, rfl⟩ := r1
        have hf0 := flat_reps q2 hf
        subst hf0
        refine ⟨a, ws, by simp, ?_, q1, q2, fun xs' us' h => ?_⟩
        · exact valV_pos rfl
        · have s1 : dRep (k :: ks) (.lst xs :: ds) k (.lst xs') = .lst xs' :: dRep ks ds k (.lst xs') := by
            show (if k = k then _ else _) :: _ = _
            rw [if_pos rfl]
          rw [s1, dRep_none nk2.1 (by rw [hl2, r2.len])]
          refine RepL.cons (by simp only [Rep]; exact ⟨a, us', [], rfl, upd_same, h, rfl⟩) ?_
          exact RepL.kp (Kp.upd (o := HO.lst us') ⟨_, q1, rfl⟩) _ _ _ r2 fun b hb z => nf2.2.2 a (by simp) b hb (by
            rw [List.mem_singleton] at z
            exact z.symm)
      · have e2 : dGet ks ds x = some (.lst xs) := by
          simp [dGet, e1] at hg
          exact hg
        obtain ⟨a, ws, h1, h2, h3, h4, h5⟩ := in_dict r2 hl2 nk2.2 nf2.2.1 e2 hf
        refine ⟨a, ws, by simp [h1], ?_, h3, h4, fun xs' us' h => ?_⟩
        · rw [← h2]
          exact valV_neg (fun z => e1 (by
            have z' : (Sum.inr (mkS k) : Key) = Sum.inr (mkS x) := z
            injection z' with z'
            exact mkS_inj z'))
        · have s1 : dRep (k :: ks) (e :: ds) x (.lst xs') = e :: dRep ks ds x (.lst xs') := by
            show (if k = x then _ else _) :: _ = _
            rw [if_neg e1]
          rw [s1]
          refine RepL.cons ?_ (h5 xs' us' h)
          exact Rep.kp (Kp.upd (o := HO.lst us') ⟨_, h3, rfl⟩) _ _ _ r1 fun b hb z => nf2.2.2 b hb a h1 (by
            rw [List.mem_singleton] at z
            exact z)
/-- what stands in slot i: a dict that the slot owns; under kr a list of what cannot be written -/
def inAt (o : Option (Dat × Kd)) (kr : Rs) : Option (List Tx × List Dat × Tx × List Dat) := match o, kr.d with
  | some (.dic ks ds, .deep), .str x => match dGet ks ds x with
    | some (.lst xs) => if flatL xs && decide ks.Nodup && decide (xs.length ≤ 1000000) then some (ks, ds, x, xs) else none
    | _ => none
  | _, _ => none
def sAppIn1 (i : Nat) (E : Sto) (kr r : Rs) : Res Fl := match inAt (slot E i) kr with
  | some (ks, ds, x, xs) => if flat r.d then .ok (.nx (E.set i (some (.dic ks (dRep ks ds x (.lst (xs ++ [r.d]))), .deep)))) else .no
  | none => .no
def sIn (g : Nat → Sto → Rs → Rs → Res Fl) (i : Nat) (fk fv : Sto → Res Rs) : Sto → Res Fl := fun E => if dicAt (slot E i) then (fk E).bind fun kr => if (inAt (slot E i) kr).isSome then (fv E).bind fun r => g i E kr r else .no else .no
abbrev sAppIn := sIn sAppIn1
def sExtIn1 (i : Nat) (E : Sto) (kr r : Rs) : Res Fl := match inAt (slot E i) kr, r.d with
  | some (ks, ds, x, xs), .lst ys => if flatL ys && decide (ys.length ≤ 1000000) then .ok (.nx (E.set i (some (.dic ks (dRep ks ds x (.lst (xs ++ ys))), .deep)))) else .no
  | _, _ => .no
abbrev sExtIn := sIn sExtIn1
theorem inAt_of {o : Option (Dat × Kd)} {kr : Rs} {ks : List Tx} {ds : List Dat} {x : Tx} {xs : List Dat} (h : inAt o kr = some (ks, ds, x, xs)) : o = some (.dic ks ds, .deep) ∧ kr.d = .str x ∧ dGet ks ds x = some (.lst xs) ∧ flatL xs = true ∧ ks.Nodup ∧ xs.length ≤ 1000000 := by
  unfold inAt at h
  split at h
  · rename_i ks' ds' x' hk
    split at h
    · rename_i xs' hg
      by_cases hc : (flatL xs' && decide ks'.Nodup && decide (xs'.length ≤ 1000000)) = true
      · rw [if_pos hc] at h
        injection h with h
        injection h with h1 h
        injection h with h2 h
        injection h with h3 h4
        subst h1 h2 h3 h4
        simp only [Bool.and_eq_true, decide_eq_true_eq] at hc
        exact ⟨rfl, hk, hg, hc.1.1, hc.1.2, hc.2⟩
      · rw [if_neg hc] at h
        cases h
    · cases h
  · cases h
section
variable {X : Cx} {W : WX} {k : Nat} {o ke e : Expr} {i : Nat} {fk f : Sto → Res Rs} {apos cpos pos p1 : Pos}
/-- the object of d[k] and what may be made of it -/
theorem in_slot {B : Fx} {E : Sto} {σ : L2.St} {H : Hp} {F : Fp} {ks : List Tx} {ds xs : List Dat} {x : Tx} (r : R (glo X) B E σ H F) (h : slot E i = some (.dic ks ds, .deep)) (nk : ks.Nodup) (hg : dGet ks ds x = some (.lst xs)) (hf : flatL xs = true) :
    ∃ l vs a us, σ[i]? = some (some (.ref l)) ∧ H l = some (.dK (kvOf ks vs)) ∧ valV (kvOf ks vs) (Sum.inr (mkS x) : Key) = some (.ref a) ∧ H a = some (.lst us) ∧ RepL (glo X) H xs us [] ∧
      ∀ xs' us', RepL (glo X) (upd H a (.lst us')) xs' us' [] → R (glo X) B (E.set i (some (.dic ks (dRep ks ds x (.lst xs')), .deep))) σ (upd H a (.lst us')) F := by
  obtain ⟨l, vs, f, y1, y2, y3, y4, y5⟩ := dic_slot r h (by simp)
  have ki : kd E i = .deep := by
    unfold kd
    rw [h]
  have nf := r.nod i ki
  rw [y2] at nf
  have nf2 := List.nodup_cons.mp nf
  obtain ⟨a, us, h1, h2, h3, h4, h5⟩ := in_dict y5 y4 nk nf2.2 hg hf
  refine ⟨l, vs, a, us, y1, y3, h2, h3, h4, fun xs' us' hr => ?_⟩
  refine r.writeIn h (by rw [y2]; exact List.mem_cons_of_mem _ h1) y1 rfl ?_
  rw [y2]
  simp only [Rep]
  refine ⟨l, vs, f, rfl, .inl ?_, y4, h5 xs' us' hr, rfl⟩
  rw [upd_ne (fun z => nf2.1 (by rw [z]; exact h1))]
  exact y3
theorem in_run {g : Nat → Sto → Rs → Rs → Res Fl} {B : Fx} {E : Sto} {F : Fp} {σ : L2.St} {H : Hp} {D : Ends} {Q : V → Hp → V → Hp → Prop} {Q0 : V → Hp → Prop} (C : XOk k X) (r : R (glo X) B E σ H F) (o : OutS X W B D (sIn g i fk f E))
    (h0 : ∀ a us H1, H1 a = some (.lst us) → tEv X W f σ H1 (Q (.ref a) H1) → Q0 (.ref a) H1)
    (h : ∀ (kr rs : Rs) (ks : List Tx) (ds xs : List Dat) (x : Tx) (H1 H2 : Hp) (v : V) (fp : List Addr) (a : Addr) (us : List V), inAt (slot E i) kr = some (ks, ds, x, xs) → R (glo X) B E σ H2 F → Gv (glo X) H1 F rs v H2 fp → OutS X W B D (g i E kr rs) →
      H2 a = some (.lst us) → RepL (glo X) H2 xs us [] →
      (∀ xs' us', RepL (glo X) (upd H2 a (.lst us')) xs' us' [] → R (glo X) B (E.set i (some (.dic ks (dRep ks ds x (.lst xs')), .deep))) σ (upd H2 a (.lst us')) F) → Q (.ref a) H1 v H2) :
    tDGet (tVar i) (tEv X W fk) σ H Q0 := by
  unfold sIn at o
  have hc : dicAt (slot E i) = true := Classical.byContradiction fun hc => by
    rw [if_neg hc] at o
    exact o.elim
  rw [if_pos hc] at o
  obtain ⟨ks0, ds0, k00, e0⟩ := dicAt_of hc
  obtain ⟨w0, q1, q2⟩ := r.rep.rep i _ _ e0
  simp only [Rep] at q2
  obtain ⟨l0, _, _, rfl, _⟩ := q2
  refine ⟨.ref l0, q1, ?_⟩
  refine seqS r o fun kr y H1 f1 e1 s1 g1 o1 => ?_
  cases hin : inAt (slot E i) kr with
  | none =>
    rw [hin] at o1
    exact o1.elim
  | some t =>
    obtain ⟨ks, ds, x, xs⟩ := t
    rw [hin] at o1
    have o1 : OutS X W B D ((f E).bind fun r => g i E kr r) := o1
    obtain ⟨z1, z2, z3, z4, z5, z6⟩ := inAt_of hin
    have r1 := r.same s1
    obtain ⟨l, vs, a, us, y1, y2, y3, y4, y5, _⟩ := in_slot r1 z1 z5 z3 z4
    have el : l = l0 := by
      rw [q1] at y1
      injection y1 with y1
      injection y1 with y1
      injection y1 with y1
      exact y1.symm
    subst el
    have py := g1.rep
    rw [z2] at py
    have ey := rep_str py
    subst ey
    refine ⟨l, .ref a, rfl, .inl ⟨_, Sum.inr (mkS x), .inl y2, rfl, y3.symm⟩, h0 a us H1 y4 ?_⟩
    refine seqS r1 o1 fun rs v H2 fp e2 s2 g2 o2 => ?_
    have r2 := r1.same s2
    obtain ⟨l', vs', a', us', w1, w2, w3, w4, w5, fin⟩ := in_slot r2 z1 z5 z3 z4
    have el : l' = l := by
      rw [y1] at w1
      injection w1 with w1
      injection w1 with w1
      injection w1 with w1
      exact w1.symm
    subst el
    have ea : a' = a := by
      have e := s2 _ _ y2
      rw [w2] at e
      injection e with e
      injection e with e
      rw [e, y3] at w3
      injection w3 with w3
      injection w3 with w3
      exact w3.symm
    subst ea
    exact h kr rs ks ds xs x H1 H2 v fp a' us' hin r2 g2 o2 w4 w5 fin
theorem es_appendIn (C : XOk k X) (ho : PE X o (tVar i)) (hk : Ev X W ke fk) (he : Ev X W e f) (hn : NoSl ke := by exact fun _ _ => rfl)
    (hbase : attributeBase (.Subscript o ke p1) "append" X.env (eval (.Subscript o ke p1) X.env) = eval (.Subscript o ke p1) X.env := by rfl)
    (hfew : ((backTo cpos (starEach [e] X.env)).all (fun x => !x.1) && (backToKw cpos (keywordEach [] X.env)).all (fun x => x.1.isSome) && decide (([e] : List Expr).length + ([] : List Keyword).length + (if ([] : List Keyword).isEmpty then 0 else 1) < 30)) = true := by rfl)
    (hline : (apos.endLine == cpos.line) = true := by rfl) (hs : starEach [e] X.env = (false, eval e X.env) :: starEach [] X.env := by rfl) (hplain : (backTo cpos (starEach [] X.env)).any (·.1) = false := by rfl) (hw : swapsWith (.Call (.Attribute (.Subscript o ke p1) "append" apos) [e] [] cpos) none pos.line X.env = pure false := by rfl) :
    Es X W (.Expr (.Call (.Attribute (.Subscript o ke p1) "append" apos) [e] [] cpos) pos) (sAppIn i fk f) := by
  refine ⟨weakS (ps_expr (pe_bm PySem.F.plainAttrs_list PySem.F.slot_list_append PySem.F.type_list_append mt_append (pe_dget C.hu ho hk.pe hn) (pa_cons he.pe pa_nil hs) hbase hfew hline hs hplain) hw) fun D σ H ⟨B, E, F, r, o⟩ => ?_⟩
  refine in_run (Q := fun x _ v H2 => rAppend x [v] H2 fun _ H1 => D.nx σ H1) C r o (fun a us H1 q z => ⟨.inl ⟨rfl, us, .inl (.inl q)⟩, z⟩) ?_
  intro kr rs ks ds xs x H1 H2 v fp a us hin r2 g2 o2 w4 w5 fin
  obtain ⟨z1, z2, z3, z4, z5, z6⟩ := inAt_of hin
  unfold sAppIn1 at o2
  rw [hin] at o2
  simp only at o2
  by_cases hf : flat rs.d = true
  · rw [if_pos hf] at o2
    have p2 := g2.rep
    have ef := Rep.flat _ _ _ p2 hf
    subst ef
    refine ⟨a, us, v, rfl, rfl, w4, by rw [w5.len]; exact size_lt z6, ?_⟩
    refine o2 σ _ _ (fin _ _ ?_)
    have kp := Kp.upd (o := HO.lst (us ++ [v])) (H := H2) (a := a) ⟨_, w4, rfl⟩
    have := (RepL.kp kp _ _ _ w5 (fun _ z => nomatch z)).app (RepL.one (Rep.kp kp _ _ _ p2 (fun _ z => nomatch z)))
    simpa using this
  · rw [if_neg hf] at o2
    exact o2.elim
theorem es_extendIn (C : XOk k X) (ho : PE X o (tVar i)) (hk : Ev X W ke fk) (he : Ev X W e f) (hn : NoSl ke := by exact fun _ _ => rfl)
    (hbase : attributeBase (.Subscript o ke p1) "extend" X.env (eval (.Subscript o ke p1) X.env) = eval (.Subscript o ke p1) X.env := by rfl)
    (hfew : ((backTo cpos (starEach [e] X.env)).all (fun x => !x.1) && (backToKw cpos (keywordEach [] X.env)).all (fun x => x.1.isSome) && decide (([e] : List Expr).length + ([] : List Keyword).length + (if ([] : List Keyword).isEmpty then 0 else 1) < 30)) = true := by rfl)
    (hline : (apos.endLine == cpos.line) = true := by rfl) (hs : starEach [e] X.env = (false, eval e X.env) :: starEach [] X.env := by rfl) (hplain : (backTo cpos (starEach [] X.env)).any (·.1) = false := by rfl) (hw : swapsWith (.Call (.Attribute (.Subscript o ke p1) "extend" apos) [e] [] cpos) none pos.line X.env = pure false := by rfl) :
    Es X W (.Expr (.Call (.Attribute (.Subscript o ke p1) "extend" apos) [e] [] cpos) pos) (sExtIn i fk f) := by
  refine ⟨weakS (ps_expr (pe_bm PySem.F.plainAttrs_list PySem.F.slot_list_extend PySem.F.type_list_extend mt_extend (pe_dget C.hu ho hk.pe hn) (pa_cons he.pe pa_nil hs) hbase hfew hline hs hplain) hw) fun D σ H ⟨B, E, F, r, o⟩ => ?_⟩
  refine in_run (Q := fun x _ v H2 => rExtend x [v] H2 fun _ H1 => D.nx σ H1) C r o (fun a us H1 q z => ⟨.inl ⟨rfl, us, .inl (.inl q)⟩, z⟩) ?_
  intro kr rs ks ds xs x H1 H2 v fp a us hin r2 g2 o2 w4 w5 fin
  obtain ⟨z1, z2, z3, z4, z5, z6⟩ := inAt_of hin
  have p2 := g2.rep
  unfold sExtIn1 at o2
  rw [hin] at o2
  cases ed : rs.d <;> simp only [ed] at o2 <;> first | exact o2.elim | skip
  rename_i zs
  have hl : (flatL zs && decide (zs.length ≤ 1000000)) = true := Classical.byContradiction fun hl => by
    rw [if_neg hl] at o2
    exact o2.elim
  rw [if_pos hl] at o2
  simp only [Bool.and_eq_true, decide_eq_true_eq] at hl
  rw [ed] at p2
  simp only [Rep] at p2
  obtain ⟨b, vs2, f2, rfl, q3, q4, _⟩ := p2
  have hf2 := flat_reps q4 hl.1
  subst hf2
  refine ⟨a, b, us, vs2, rfl, rfl, w4, q3, (by
    rw [w5.len, q4.len]
    have : sizeLine = 16777216 := by decide
    omega), ?_⟩
  refine o2 σ _ _ (fin _ _ ?_)
  have kp := Kp.upd (o := HO.lst (us ++ vs2)) (H := H2) (a := a) ⟨_, w4, rfl⟩
  have := (RepL.kp kp _ _ _ w5 (fun _ z => nomatch z)).app (RepL.kp kp _ _ _ q4 (fun _ z => nomatch z))
  simpa using this
end
end PV

/-! PV30: walking a dict of a slot, locked for so long. -/
namespace PV
open PySem PySem.Spec L2
def iKeysF (i : Nat) : Sto → Res (List Dat × List Nat) := fun E => match slot E i with
  | some (.dic ks _, _) => .ok (ks.map Dat.str, [i])
  | _ => .no
theorem iKeysF_ok {i : Nat} {E : Sto} {p : List Dat × List Nat} (h : iKeysF i E = .ok p) : ∃ ks ds k, slot E i = some (.dic ks ds, k) ∧ p = (ks.map Dat.str, [i]) := by
  unfold iKeysF at h
  split at h
  · rename_i ks ds k e
    injection h with h
    exact ⟨ks, ds, k, e, h.symm⟩
  · cases h
theorem iKeysF_exc {i : Nat} {E : Sto} {c : Tx} : iKeysF i E ≠ .exc c := by
  intro h
  unfold iKeysF at h
  split at h <;> cases h
theorem sto_ext {A B : Sto} (l : A.length = B.length) (h : ∀ j, slot A j = slot B j) : A = B := by
  refine List.ext_getElem l fun j h1 h2 => ?_
  have := h j
  unfold slot at this
  rw [List.getElem?_eq_getElem h1, List.getElem?_eq_getElem h2] at this
  exact this
theorem downE_idem {E : Sto} {m : List Nat} : downE (downE E m) m = downE E m := by
  refine sto_ext downE_len fun j => ?_
  rw [downE_at, downE_at]
  by_cases h : j ∈ m
  · rw [if_pos h, if_pos h]
    cases slot E j <;> rfl
  · rw [if_neg h]
/-- the dict at slot i is locked -/
def Frz (i : Nat) (σ : L2.St) (H : Hp) : Prop := ∃ d o kvs, σ[i]? = some (some (.ref d)) ∧ H d = some (.frz o (.dK kvs))
theorem kv_at {ks : List Tx} {vs : List V} {n : Nat} {k : Key} {v : V} (l : ks.length = vs.length) (h : (kvOf ks vs)[n]? = some (k, v)) : ∃ x, ks[n]? = some x ∧ kV k = V.str (mkS x) := by
  have e := congrArg (fun l : List V => l[n]?) (kv_keys l)
  simp only [List.getElem?_map, h] at e
  cases hk : ks[n]? with
  | none =>
    rw [hk] at e
    cases e
  | some x =>
    rw [hk] at e
    simp at e
    exact ⟨x, rfl, e⟩
section
variable {X : Cx} {W : WX} {k : Nat}
theorem itok_keys {G : Glo} {H0 H : Hp} {F : Fp} {d : Addr} {o : Obj} {ks : List Tx} {vs : List V} {src : List Nat} (l : ks.length = vs.length) (h : H d = some (.frz o (.dK (kvOf ks vs)))) :
    ItOk G H0 F (ks.map Dat.str) src (Itk d o (kvOf ks vs)) H [] (fun H => H d = some (.frz o (.dK (kvOf ks vs)))) := by
  refine ⟨h, ?_, fun W H H' g kf _ => kf.frz _ _ _ g, (fun _ _ _ z => nomatch z), (fun _ z => nomatch z), fun H H' d2 od kvs g e g' e' => ?_⟩
  · have w := walk_keys (d := d) (o := o) (kvs := kvOf ks vs)
    rw [kvOf_len l, ← List.length_map (f := Dat.str) (as := ks)] at w
    refine w.mono (fun H z => z) fun n H x H' hn z y => ?_
    obtain ⟨e1, k, v, e2, e3⟩ := y
    subst e1 e3
    obtain ⟨x, e4, e5⟩ := kv_at l e2
    rw [e5]
    exact ⟨Same.refl _, .str x, [], by rw [List.getElem?_map, e4]; rfl, mk_str, (fun _ z => nomatch z)⟩
  · have hd : d ≠ d2 := fun z => by
      rw [z, e] at g
      cases g
    rw [upd_ne hd]
    exact g'
theorem keys_weak {i : Nat} {σ : L2.St} {H : Hp} {R : It → Hp → Prop} (z : Frz i σ H) (h : tEi X W (iKeysF i) σ H R) : iKeys (tVar i) σ H R := by
  obtain ⟨E, F, re, o⟩ := h
  obtain ⟨d, ob, kvs, hσ, hd⟩ := z
  cases e0 : iKeysF i E with
  | no =>
    rw [e0] at o
    exact o.elim
  | exc c => exact absurd e0 iKeysF_exc
  | ok p =>
    obtain ⟨ks, ds, kk, e1, rfl⟩ := iKeysF_ok e0
    rw [e0] at o
    obtain ⟨v, h1, h2⟩ := re.rep i _ _ e1
    simp only [Rep] at h2
    obtain ⟨a, vs, f, rfl, hr, hl, rl, ef⟩ := h2
    have ea : a = d := by
      rw [hσ] at h1
      injection h1 with h1
      injection h1 with h1
      injection h1 with h1
      exact h1.symm
    subst ea
    have ek : kvs = kvOf ks vs := by
      rcases hr with hr | ⟨o', hr⟩
      · rw [hd] at hr
        cases hr
      · rw [hd] at hr
        injection hr with hr
        injection hr with _ hr
        injection hr
    subst ek
    exact ⟨.ref a, hσ, a, ob, rfl, .inl ⟨_, hd, o _ H [] _ (Same.refl H) (itok_keys hl hd)⟩⟩
/-! ### the lock -/
def Fx.lck (B : Fx) (d : Addr) (od : Obj) (kvs : List (Key × V)) : Fx := ⟨B.H0, d :: B.Lk, (fun H => H d = some (.frz od (.dK kvs)), []) :: B.T, B.P⟩
theorem Prot.frz {d : Addr} {od : Obj} {kvs : List (Key × V)} : Prot (fun H => H d = some (.frz od (.dK kvs)), []) :=
  ⟨fun W H H' g kf _ => kf.frz _ _ _ g, (fun _ _ _ z => nomatch z), fun H H' d2 od2 kvs2 g e g' e' => by
    have hd : d ≠ d2 := fun z => by
      have g : H d = some (.frz od (.dK kvs)) := g
      rw [z, e] at g
      cases g
    show (L2.upd H' d2 (.dK kvs2)) d = _
    rw [upd_ne hd]
    exact g'⟩
theorem R.lck {G : Glo} {B : Fx} {E : Sto} {σ : L2.St} {H : Hp} {F : Fp} {i : Nat} {d : Addr} {f : List Addr} {od : Obj} {kvs : List (Key × V)} (r : R G B E σ H F) (hF : F i = d :: f) (hd : H d = some (.dK kvs)) :
    R G (B.lck d od kvs) (downE E [i]) σ (L2.upd H d (.frz od (.dK kvs))) F := by
  have r1 := r.down [i]
  have kf := Kf.lck (od := od) hd
  have nd : ∀ j, d ∉ Ow (downE E [i]) F j := fun j z => by
    unfold Ow at z
    rw [kd_down] at z
    by_cases h : j ∈ [i]
    · simp [h, owK] at z
    · rw [if_neg h] at z
      exact r.sep j i (fun e => h (by simp [e])) d z (by rw [hF]; exact List.mem_cons_self)
  have neh : ∀ b o, H b = some o → o ≠ .dK kvs → b ≠ d := fun b o e n z => by
    rw [z, hd] at e
    injection e with e
    exact n e.symm
  refine ⟨r1.rep.kp kf.kp (fun _ _ _ => by simp), fun j a ha => ⟨?_, (r1.own j a ha).2⟩, r1.nod, r1.rot, r1.sep, fun t ht => (List.mem_cons.mp ht).elim (fun e => e ▸ Prot.frz) (r1.pro t), fun t ht => ?_, r1.prv, fun b o e => ?_⟩
  · obtain ⟨u, e, w⟩ := (r1.own j a ha).1
    exact ⟨u, by rw [upd_ne (fun z => nd j (by rw [← z]; exact ha))]; exact e, w⟩
  · rcases List.mem_cons.mp ht with q | q
    · subst q
      exact ⟨upd_same, fun _ _ _ z => nomatch z⟩
    · exact ⟨(r1.pro t q).keep [] _ _ (r1.tmp t q).1 kf (fun _ _ => by simp), (r1.tmp t q).2⟩
  · rcases r1.frm b o e with q | ⟨q1, ob, q2⟩
    · by_cases hb : b = d
      · subst hb
        rw [hd] at q
        injection q with q
        subst q
        exact .inr ⟨List.mem_cons_self, od, upd_same⟩
      · exact .inl (by rw [upd_ne hb]; exact q)
    · exact .inr ⟨List.mem_cons_of_mem _ q1, ob, by rw [upd_ne (neh b _ q2 (fun z => nomatch z))]; exact q2⟩
theorem Frm.unl {B : Fx} {H H' : Hp} {d : Addr} {od : Obj} {kvs : List (Key × V)} (f0 : Frm B H) (hd : H d = some (.dK kvs)) (f : Frm (B.lck d od kvs) H') (hd' : H' d = some (.frz od (.dK kvs))) : Frm B (L2.upd H' d (.dK kvs)) := by
  intro b o e
  by_cases hb : b = d
  · subst hb
    rcases f0 b o e with q | ⟨_, ob, q⟩
    · rw [hd] at q
      injection q with q
      subst q
      exact .inl upd_same
    · rw [hd] at q
      cases q
  · rw [upd_ne hb]
    rcases f b o e with q | ⟨q1, ob, q2⟩
    · exact .inl q
    · exact .inr ⟨(List.mem_cons.mp q1).resolve_left hb, ob, q2⟩
theorem wr_unl {H' : Hp} {d a : Addr} {od : Obj} {kvs : List (Key × V)} (hd' : H' d = some (.frz od (.dK kvs))) (w : Wr H' a) : Wr (L2.upd H' d (.dK kvs)) a := by
  obtain ⟨u, e, w⟩ := w
  refine ⟨u, ?_, w⟩
  rw [upd_ne (fun z => by
    rw [z, hd'] at e
    injection e with e
    subst e
    cases w)]
  exact e
theorem R.unl {G : Glo} {B : Fx} {E E' : Sto} {σ σ' : L2.St} {H H' : Hp} {F F' : Fp} {d : Addr} {od : Obj} {kvs : List (Key × V)} (r : R G B E σ H F) (hd : H d = some (.dK kvs)) (r' : R G (B.lck d od kvs) E' σ' H' F') :
    H' d = some (.frz od (.dK kvs)) ∧ R G B E' σ' (L2.upd H' d (.dK kvs)) F' := by
  have hd' : H' d = some (.frz od (.dK kvs)) := (r'.tmp _ List.mem_cons_self).1
  refine ⟨hd', r'.rep.kp (Kp.unl hd') (fun _ _ _ => by simp), fun j a ha => ⟨wr_unl hd' (r'.own j a ha).1, (r'.own j a ha).2⟩, r'.nod, r'.rot, r'.sep, r.pro, fun t ht => ⟨?_, (r'.tmp t (List.mem_cons_of_mem _ ht)).2⟩, r'.prv, r.frm.unl hd r'.frm hd'⟩
  exact (r.pro t ht).unl H H' d od kvs (r.tmp t ht).1 hd (r'.tmp t (List.mem_cons_of_mem _ ht)).1 hd'
theorem post_unl {G : Glo} {B : Fx} {E : Sto} {σ : L2.St} {H H' : Hp} {F : Fp} {d : Addr} {od : Obj} {kvs : List (Key × V)} {x : Dat} {dp : Bool} {v : V} (r : R G B E σ H F) (hd : H d = some (.dK kvs)) (p : RPost G (B.lck d od kvs) x dp v H') :
    H' d = some (.frz od (.dK kvs)) ∧ RPost G B x dp v (L2.upd H' d (.dK kvs)) := by
  obtain ⟨fp, h1, h2, h3, h4, h5⟩ := p
  have hd' : H' d = some (.frz od (.dK kvs)) := h5 _ List.mem_cons_self
  refine ⟨hd', fp, Rep.kp (Kp.unl hd') _ _ _ h1 (fun _ _ => by simp), fun z => ⟨(h2 z).1, fun a ha => ⟨wr_unl hd' ((h2 z).2 a ha).1, ((h2 z).2 a ha).2⟩⟩, h3, r.frm.unl hd h4 hd', fun t ht => ?_⟩
  exact (r.pro t ht).unl H H' d od kvs (r.tmp t ht).1 hd (h5 t (List.mem_cons_of_mem _ ht)) hd'
/-! ### for x in d -/
theorem ps_orS {st : Stmt} {t u : TS} (a : PS X st t) (b : PS X st u) : PS X st (fun D σ H => t D σ H ∨ u D σ H) := ⟨fun pins s σ H D I h => h.elim (a.run pins s σ H D I) (b.run pins s σ H D I)⟩
def sForD (T : Tgt) (i : Nat) (g : Sto → Res Fl) : Sto → Res Fl := fun E => match sFor T (iKeysF i) g E with
  | .exc _ => .no
  | r => r
theorem es_forD (po : PassesOwn (model X.prog X.w) X.A X.env X.xe) (C : XOk k X) (i : Nat) {T : Tgt} {tg : Expr} {x : Str} {p pos : Pos} {body : List Stmt} {g : Sto → Res Fl} (hg : PG X tg (gT X.K T)) (hb : Ess X W body g)
    (hN : X.N[i]? = some x := by rfl) (hv : Vis X.env.scope x := by first | exact Or.inl rfl | exact Or.inr (Or.inl rfl) | exact Or.inr (Or.inr rfl)) (hd : (x == ("__debug__" : Str)) = false := by decide) (hcd : (x == ("__classdict__" : Str)) = false := by decide)
    (hs : ∀ y, foldedSetIterable (.Name x p) X.env y = pure y := by intro _; rfl) : Es X W (.For tg (.Name x p) body [] pos) (sForD T i g) := by
  have base := ps_for po C.calm (pi_keys (tg := tg) (p_var (X := X) (pos := p) i hN hv hd hcd)) hg hb.pss hs (pos := pos)
  refine ⟨weakS (ps_orS (ps_lock base) base) fun D σ H ⟨B, E, F, r, o⟩ => ?_⟩
  unfold sForD at o
  cases e : sFor T (iKeysF i) g E with
  | no =>
    simp only [e] at o
    exact o.elim
  | exc c =>
    simp only [e] at o
    exact o.elim
  | ok fl =>
    simp only [e] at o
    have e0 : ∃ ks ds kk, slot E i = some (.dic ks ds, kk) := by
      unfold sFor at e
      cases e1 : iKeysF i E with
      | no =>
        rw [e1] at e
        cases e
      | exc c => exact absurd e1 iKeysF_exc
      | ok q =>
        obtain ⟨ks, ds, kk, e2, _⟩ := iKeysF_ok e1
        exact ⟨ks, ds, kk, e2⟩
    obtain ⟨ks, ds, kk, e0⟩ := e0
    obtain ⟨v, h1, h2⟩ := r.rep.rep i _ _ e0
    simp only [Rep] at h2
    obtain ⟨d, vs, f, rfl, hr, hl, rl, ef⟩ := h2
    rcases hr with hr | ⟨ob, hr⟩
    · left
      refine ⟨d, .dK (kvOf ks vs), hr, trivial, fun od => ?_⟩
      refine keys_weak (X := X) (W := W) ⟨d, od, _, h1, upd_same⟩ (for_weak _ σ _ ⟨B.lck d od (kvOf ks vs), downE E [i], F, r.lck ef hr, ?_⟩)
      have e3 : sFor T (iKeysF i) g (downE E [i]) = .ok fl := by
        rw [← e]
        unfold sFor
        have e4 : iKeysF i (downE E [i]) = iKeysF i E := by
          unfold iKeysF
          rw [downE_at, if_pos (by simp), e0]
          rfl
        have e5 : iKeysF i E = .ok (ks.map Dat.str, [i]) := by
          unfold iKeysF
          rw [e0]
        rw [e4, e5]
        simp only [bind_ok, downE_idem]
      rw [e3]
      cases fl with
      | nx E' => exact fun σ' H' F' r' => ⟨(r.unl hr r').1, o σ' _ F' (r.unl hr r').2⟩
      | bk E' => exact fun σ' H' F' r' => ⟨(r.unl hr r').1, o σ' _ F' (r.unl hr r').2⟩
      | ct E' => exact fun σ' H' F' r' => ⟨(r.unl hr r').1, o σ' _ F' (r.unl hr r').2⟩
      | rt x dp => exact fun v H' p => ⟨(post_unl r hr p).1, o v _ (post_unl r hr p).2⟩
    · right
      exact keys_weak (X := X) (W := W) ⟨d, ob, _, h1, hr⟩ (for_weak _ σ _ ⟨B, E, F, r, by rw [e]; exact o⟩)
/-! ### [.. for x in d ..] -/
theorem lock_comp {T : Tgt} {own : List Nat} {i : Nat} {ft : Sto → Res Bool} {fe : Sto → Res Rs} (hT : ∀ i ∈ slotsT T, i ∈ own) {σ : L2.St} {H : Hp} {Q : VK} (h : tEv X W (fComp T own (iKeysF i) ft fe) σ H Q) :
    tLockE (tLc (iKeys (tVar i)) (gT X.K T) (tEt X Wn ft) (tEv X Wn fe) own) σ H Q ∨ tLc (iKeys (tVar i)) (gT X.K T) (tEt X Wn ft) (tEv X Wn fe) own σ H Q := by
  obtain ⟨E, F, re, o⟩ := h
  cases e : fComp T own (iKeysF i) ft fe E with
  | no =>
    rw [e] at o
    exact o.elim
  | exc c =>
    exfalso
    unfold fComp at e
    cases e1 : iKeysF i E with
    | no =>
      rw [e1] at e
      cases e
    | exc c => exact iKeysF_exc e1
    | ok p =>
      rw [e1] at e
      simp only [bind_ok] at e
      split at e
      · split at e <;> cases e
      · cases e
  | ok rs =>
    have e0 : ∃ ks ds kk, slot E i = some (.dic ks ds, kk) := by
      unfold fComp at e
      cases e1 : iKeysF i E with
      | no =>
        rw [e1] at e
        cases e
      | exc c => exact absurd e1 iKeysF_exc
      | ok q =>
        obtain ⟨ks, ds, kk, e2, _⟩ := iKeysF_ok e1
        exact ⟨ks, ds, kk, e2⟩
    obtain ⟨ks, ds, kk, e0⟩ := e0
    obtain ⟨v, h1, h2⟩ := re.rep i _ _ e0
    simp only [Rep] at h2
    obtain ⟨d, vs, f, rfl, hr, hl, rl, ef⟩ := h2
    rcases hr with hr | ⟨ob, hr⟩
    · left
      refine ⟨d, .dK (kvOf ks vs), hr, trivial, fun od => ?_⟩
      have kf := Kf.lck (od := od) hr
      suffices hc : tEv X W (fComp T own (iKeysF i) ft fe) σ (L2.upd H d (.frz od (.dK (kvOf ks vs)))) (fun v H' => H' d = some (.frz od (.dK (kvOf ks vs))) ∧ Q v (L2.upd H' d (.dK (kvOf ks vs)))) from
        keys_weak (X := X) (W := W) ⟨d, od, _, h1, upd_same⟩ (comp_lc hT hc)
      refine ⟨E, F, re.kp kf.kp (fun _ _ _ => by simp), ?_⟩
      rw [e] at o ⊢
      intro v H' fp sL g
      have hd' : H' d = some (.frz od (.dK (kvOf ks vs))) := sL _ _ upd_same
      have fr : ∀ a, (L2.upd H d (.frz od (.dK (kvOf ks vs)))) a = none → H a = none := fun a z => by
        by_cases ha : a = d
        · subst ha
          rw [upd_same] at z
          cases z
        · rw [upd_ne ha] at z
          exact z
      refine ⟨hd', o v _ fp (fun b u eb => ?_) ⟨Rep.kp (Kp.unl hd') _ _ _ g.rep (fun _ _ => by simp), fun a ha => (g.prv.src a ha).imp (fr a) id, fun z => ?_, fun m em => ?_⟩⟩
      · by_cases hb : b = d
        · subst hb
          rw [hr] at eb
          rw [← eb]
          exact upd_same
        · rw [upd_ne hb]
          exact sL _ _ (by rw [upd_ne hb]; exact eb)
      · obtain ⟨a, f', q1, q2, q3, q4⟩ := g.prv.rt z
        exact ⟨a, f', q1, fr a q2, wr_unl hd' q3, q4⟩
      · obtain ⟨frs, q1, q2, q3⟩ := g.prv.mv m em
        exact ⟨frs, q1, q2, fun a ha => ⟨fr a (q3 a ha).1, wr_unl hd' (q3 a ha).2⟩⟩
    · right
      have hc : tEv X W (fComp T own (iKeysF i) ft fe) σ H Q := ⟨E, F, re, o⟩
      exact keys_weak (X := X) (W := W) ⟨d, ob, _, h1, hr⟩ (comp_lc hT hc)
/-- [elt for target in d if test] -/
structure CompOkD (X : Cx) (T : Tgt) (own : List (Str × Nat)) (elt tg : Expr) (ifs : List Expr) (scope : Scope) (ft : Sto → Res Bool) (fe : Sto → Res Rs) : Prop where
  sub : ∀ i ∈ slotsT T, i ∈ own.map (·.2)
  blk : BlkOk X.N X.env.scope scope own
  tgt : ∀ (s : Shared) (H : Hp) (C : Addr) (cl : List (Str × Addr)) (fp : List Addr), PG (X.blk s H scope (compEnvC scope cl C X.env) fp) tg (gT X.K T)
  tst : ∀ (s : Shared) (H : Hp) (C : Addr) (cl : List (Str × Addr)) (fp : List Addr), PTs (X.blk s H scope (compEnvC scope cl C X.env) fp) ifs (tEt X Wn ft)
  elt : ∀ (s : Shared) (H : Hp) (C : Addr) (cl : List (Str × Addr)) (fp : List Addr), PE (X.blk s H scope (compEnvC scope cl C X.env) fp) elt (tEv X Wn fe)
theorem ev_compD (C : XOk k X) (i : Nat) {T : Tgt} {own : List (Str × Nat)} {elt tg : Expr} {x : Str} {p : Pos} {ifs : List Expr} {scope : Scope} {pos : Pos} {ft : Sto → Res Bool} {fe : Sto → Res Rs} (c : CompOkD X T own elt tg ifs scope ft fe)
    (hN : X.N[i]? = some x := by rfl) (hv : Vis X.env.scope x := by first | exact Or.inl rfl | exact Or.inr (Or.inl rfl) | exact Or.inr (Or.inr rfl)) (hd : (x == ("__debug__" : Str)) = false := by decide) (hcd : (x == ("__classdict__" : Str)) = false := by decide)
    (hs : ∀ y, foldedSetIterable (.Name x p) X.env y = pure y := by intro _; rfl) : Ev X W (.ListComp elt [⟨tg, .Name x p, ifs, 0⟩] scope pos) (fComp T (own.map (·.2)) (iKeysF i) ft fe) := by
  have base := pe_lc C.calm C.nd (pi_keys (tg := tg) (p_var (X := X) (pos := p) i hN hv hd hcd)) c.blk c.tgt c.tst c.elt hs (pos := pos)
  exact ⟨weakE (pe_orE (pe_lock base) base) fun σ H Q h => lock_comp c.sub h⟩
theorem pasgD (C : XOk k X) (i : Nat) {j : Nat} {y : Str} {py : Pos} {T : Tgt} {own : List (Str × Nat)} {elt tg : Expr} {x : Str} {p : Pos} {ifs : List Expr} {scope : Scope} {pos spos : Pos} {ft : Sto → Res Bool} {fe : Sto → Res Rs} (c : CompOkD X T own elt tg ifs scope ft fe)
    (hyl : X.env.scope.names.lookup y = some .local) (hk : X.env.scope.kind = .function) (hl : (py.line == pos.line) = true) (ha : (scope.names.any fun (n, k) => n == y && (k == .local || k == .cell)) = false)
    (hy : X.N[j]? = some y := by rfl)
    (hN : X.N[i]? = some x := by rfl) (hv : Vis X.env.scope x := by first | exact Or.inl rfl | exact Or.inr (Or.inl rfl) | exact Or.inr (Or.inr rfl)) (hd : (x == ("__debug__" : Str)) = false := by decide) (hcd : (x == ("__classdict__" : Str)) = false := by decide)
    (hs : ∀ y, foldedSetIterable (.Name x p) X.env y = pure y := by intro _; rfl) :
    PAsg X W (.Assign [.Name y py] (.ListComp elt [⟨tg, .Name x p, ifs, 0⟩] scope pos) spos) j (fComp T (own.map (·.2)) (iKeysF i) ft fe) := by
  have base := ps_setLc C.calm C.nd hy hyl (sw_true hk hyl hl ha) (pi_keys (tg := tg) (p_var (X := X) (pos := p) i hN hv hd hcd)) c.blk c.tgt c.tst c.elt hs (spos := spos)
  exact ⟨weakS (ps_orS (ps_lock base) base) fun D σ H h => lock_comp c.sub h⟩
end
end PV

/-! PV31: d != {}. -/
namespace PV
open PySem PySem.Spec L2
section
variable {X : Cx} {W : WX} {k : Nat}
abbrev rNe0 : R2 := fun x y H Q => ∃ (a b : Addr) (ks : List (Key × V)), x = V.ref a ∧ y = V.ref b ∧ Rd H a (.dK ks) ∧ Rd H b (.dK []) ∧ Q (.bl (!decide (ks.length = 0))) H
theorem op_ne0 (hu : X.A.units < cLine) : OpR X (compareOp .NotEq) rNe0 := by
  intro pins s σ H x y v u Q I rx ry h
  obtain ⟨a, b, ks, rfl, rfl, ea, eb, q⟩ := h
  obtain rfl : v = Value.ref a := rx
  obtain rfl : u = Value.ref b := ry
  obtain ⟨_, ya, va, ra, da⟩ := dk_rd I.hok ea
  obtain ⟨_, yb, vb, rb, db⟩ := dk_rd I.hok eb
  have h0 : vb = [] := by
    cases rb
    rfl
  subst h0
  have hl : ks.length = va.length := ra.length
  refine PySem.W.keq_ne (knd := mixKind X.prog X.w) (r := true) ya yb da db hu (fun h => ?_) (fin_bl I q ?_)
  · have : va = [] := List.eq_nil_of_length_eq_zero h
    subst this
    exact .nil
  · rw [hl]
    cases va <;> simp
def gNe0 (ra rb : Rs) : Res Rs := match ra.d, rb.d with
  | .dic ks _, .dic [] _ => .ok (rsF (.bl (!decide (ks = []))))
  | _, _ => .no
theorem ops_ne0 : OpS X rNe0 gNe0 := by
  intro W H0 H F σ ra rb x y fa fb Q s0 tr ga gb o
  have pa := ga.rep
  have pb := gb.rep
  unfold gNe0 at o
  cases ea : ra.d <;> simp only [ea] at o <;> first | exact o.elim | skip
  rename_i ks ds
  cases eb : rb.d <;> simp only [eb] at o <;> first | exact o.elim | skip
  rename_i ks2 ds2
  cases ks2 with
  | cons _ _ => exact o.elim
  | nil =>
    rw [ea] at pa
    rw [eb] at pb
    simp only [Rep] at pa pb
    obtain ⟨a, vs, f, rfl, hr, hl, _, _⟩ := pa
    obtain ⟨b, us, g, rfl, hr2, hl2, _, _⟩ := pb
    refine ⟨a, b, _, rfl, rfl, hr, ?_, ?_⟩
    · cases us with
      | nil => exact hr2
      | cons _ _ => simp at hl2
    · rw [kvOf_len hl]
      have e : (!decide (ks.length = 0)) = !decide (ks = []) := by cases ks <;> simp
      rw [e]
      exact o.flat mk_bl
variable {a b : Expr} {pos : Pos} {fa fb : Sto → Res Rs}
theorem ev_ne0 (C : XOk k X) (ha : Ev X W a fa) (hb : Ev X W b fb) : Ev X W (.Compare a [.NotEq] [b] pos) (fBin gNe0 fa fb) := ev_cmp (op_ne0 (by have := C.hu; omega)) ops_ne0 ha hb (nomark _)
theorem et_ne0 (C : XOk k X) (ha : Ev X W a fa) (hb : Ev X W b fb) : Et X W (.Compare a [.NotEq] [b] pos) (tOf (fBin gNe0 fa fb)) := et_cmp (op_ne0 (by have := C.hu; omega)) ops_ne0 ha hb (nomark _)
end
end PV

namespace PV
open PySem PySem.Spec L2
def y_is_title_1 : Sto → Res Rs := fOr (fBin (gIn false) (fVar 1) (fC (.str [97, 98, 99, 100, 101, 102, 103, 104, 105, 106, 107, 108, 109, 110, 111, 112, 113, 114, 115, 116, 117, 118, 119, 120, 121, 122]))) (fBin (gIn false) (fVar 1) (fTup (aCons (fC (.str [32])) (aCons (fC (.str [58])) aNil))))
/-- is_title(thing); slots thing, sign -/
def g_is_title : Sto → Res Fl := sSeq (sIf (tOr' (tNot' (tOf (fOne (gIsi (isT "str") noOwn) (fVar 0)))) (tOf (fBin gGt (fOne gLen (fVar 0)) (fC (.int 12))))) (sRet (fC (.bl false))) sNil) (sRet (fOne gAll (fComp (.one 1) [1] (iOf (fVar 0)) tTrue y_is_title_1)))
def c_is_title : Con := runF 2 1 g_is_title
def q_bare_of_1 : Sto → Res Bool := tOf (fBin gNe (fVar 2) (fC (.str [])))
def y_bare_of_1 : Sto → Res Rs := fVar 2
def t_bare_of_1 : Sto → Res Bool := tOf (fM1 gStartsW (fVar 1) (fC (.str [114, 101, 58])))
def b_bare_of_1 : Sto → Res Fl := sSet false 1 (fM1 gStrip (fSl (fVar 1) (oSome (fC (.int 3))) oNone) (fC (.str [32])))
/-- bare_of(title); slots title, found, word -/
def g_bare_of : Sto → Res Fl := sSeq (sSet false 1 (fM1 gJoin (fC (.str [32])) (fComp (.one 2) [2] (iOf (fM1 gSplit (fVar 0) (fC (.str [32])))) q_bare_of_1 y_bare_of_1))) (sSeq (whileGo t_bare_of_1 b_bare_of_1 1000) (sRet (fVar 1)))
def c_bare_of : Con := runF 3 1 g_bare_of
/-- bare(title); slots title -/
def g_bare : Sto → Res Fl := sSeq (sIf (tNot' (tOf (fCall 1 c_is_title (aCons (fVar 0) aNil)))) (sRaise [66, 97, 100, 84, 105, 116, 108, 101]) sNil) (sRet (fCall 1 c_bare_of (aCons (fVar 0) aNil)))
def c_bare : Con := runF 1 1 g_bare
/-- _law_number(_law_cell, _law_at, _law_whole); slots _law_cell, _law_at, _law_whole, _law_mixed, _law_more -/
def g__law_number : Sto → Res Fl := sSeq (sIf (tOf (fBin gGe (fVar 0) (fBin gPow (fC (.int 10)) (fC (.int 18))))) (sRet (fVar 0)) sNil) (sSeq (sSet false 3 (fBin gMod (fBin gAdd (fBin gMul (fBin gAdd (fVar 0) (fBin gMul (fC (.int 977)) (fVar 1))) (fC (.int 48271))) (fVar 2)) (fC (.int 2147483647)))) (sSeq (sSet false 4 (fBin gMul (fBin gMul (fVar 3) (fBin gAdd (fBin gAdd (fVar 3) (fBin gMul (fC (.int 31)) (fVar 1))) (fC (.int 7)))) (fBin gAdd (fBin gAdd (fVar 3) (fVar 0)) (fC (.int 5))))) (sRet (fBin gFdv (fBin gMul (fVar 4) (fBin gAdd (fVar 4) (fC (.int 48271)))) (fC (.int 1009))))))
def c__law_number : Con := runF 5 3 g__law_number
def b__law_bare_1 : Sto → Res Fl := sIf (tOr' (tOf (fBin gNe (fVar 2) (fC (.str [32])))) (tOf (fBin (gIn true) (fSl (fVar 1) (oSome (fNeg (fC (.int 1)))) oNone) (fTup (aCons (fC (.str [])) (aCons (fC (.str [32])) aNil)))))) (sSet false 1 (fBin gAdd (fVar 1) (fVar 2))) sNil
def t__law_bare_1 : Sto → Res Bool := tOf (fBin gEq (fSl (fVar 1) oNone (oSome (fC (.int 3)))) (fC (.str [114, 101, 58])))
def b__law_bare_2 : Sto → Res Fl := sSet false 1 (fIf (tOf (fBin gEq (fSl (fVar 1) (oSome (fC (.int 3))) (oSome (fC (.int 4)))) (fC (.str [32])))) (fSl (fVar 1) (oSome (fC (.int 4))) oNone) (fSl (fVar 1) (oSome (fC (.int 3))) oNone))
/-- _law_bare(_law_title); slots _law_title, _law_found, _law_sign -/
def g__law_bare : Sto → Res Fl := sSeq (sSet false 1 (fC (.str []))) (sSeq (sFor (.one 2) (iOf (fVar 0)) b__law_bare_1) (sSeq (sSet true 1 (fIf (tOf (fBin gEq (fSl (fVar 1) (oSome (fNeg (fC (.int 1)))) oNone) (fC (.str [32])))) (fSl (fVar 1) oNone (oSome (fNeg (fC (.int 1))))) (fVar 1))) (sSeq (whileGo t__law_bare_1 b__law_bare_2 1000) (sRet (fVar 1)))))
def c__law_bare : Con := runF 3 1 g__law_bare
def y_is_name_1 : Sto → Res Rs := fBin (gIn false) (fVar 1) (fC (.str [97, 98, 99, 100, 101, 102, 103, 104, 105, 106, 107, 108, 109, 110, 111, 112, 113, 114, 115, 116, 117, 118, 119, 120, 121, 122]))
/-- is_name(thing); slots thing, sign -/
def g_is_name : Sto → Res Fl := sRet (fAnd (fOne (gIsi (isT "str") noOwn) (fVar 0)) (fAnd (fChain gLe gLe (fC (.int 1)) (fOne gLen (fVar 0)) (fC (.int 3))) (fOne gAll (fComp (.one 1) [1] (iOf (fVar 0)) tTrue y_is_name_1))))
def c_is_name : Con := runF 2 1 g_is_name
def y_is_letter_1 : Sto → Res Rs := fCall 1 c_is_name (aCons (fVar 2) aNil)
/-- is_letter(thing); slots thing, answers, name -/
def g_is_letter : Sto → Res Fl := sSeq (sIf (tOr' (tNot' (tOf (fOne (gIsi (isT "tuple") noOwn) (fVar 0)))) (tOr' (tOf (fBin gNe (fOne gLen (fVar 0)) (fC (.int 3)))) (tOr' (tNot' (tOf (fCall 1 c_is_name (aCons (fBin gSubs (fVar 0) (fC (.int 0))) aNil)))) (tNot' (tOf (fCall 1 c_is_title (aCons (fBin gSubs (fVar 0) (fC (.int 2))) aNil))))))) (sRet (fC (.bl false))) sNil) (sSeq (sSet false 1 (fBin gSubs (fVar 0) (fC (.int 1)))) (sSeq (sIf (tOr' (tNot' (tOf (fOne (gIsi (isT "list") noOwn) (fVar 1)))) (tOr' (tOf (fBin gGt (fOne gLen (fVar 1)) (fC (.int 4)))) (tNot' (tOf (fOne gAll (fComp (.one 2) [2] (iOf (fVar 1)) tTrue y_is_letter_1)))))) (sRet (fC (.bl false))) sNil) (sRet (fAnd (fBin gEq (fOne gLenSet (fVar 1)) (fOne gLen (fVar 1))) (fBin (gIn true) (fBin gSubs (fVar 0) (fC (.int 0))) (fVar 1))))))
def c_is_letter : Con := runF 3 1 g_is_letter
def y_check_letters_1 : Sto → Res Rs := fCall 1 c_is_letter (aCons (fVar 1) aNil)
def y_check_letters_2 : Sto → Res Rs := fBin gSubs (fVar 1) (fC (.int 0))
/-- check_letters(letters); slots letters, letter -/
def g_check_letters : Sto → Res Fl := sSeq (sIf (tOr' (tNot' (tOf (fOne (gIsi (isT "list") noOwn) (fVar 0)))) (tOr' (tOf (fBin gGt (fOne gLen (fVar 0)) (fC (.int 9)))) (tNot' (tOf (fOne gAll (fComp (.one 1) [1] (iOf (fVar 0)) tTrue y_check_letters_1)))))) (sRaise [66, 97, 100, 76, 101, 116, 116, 101, 114, 115]) sNil) (sIf (tOf (fBin gLt (fOne gLenSet (fComp (.one 1) [1] (iOf (fVar 0)) tTrue y_check_letters_2)) (fOne gLen (fVar 0)))) (sRaise [66, 97, 100, 76, 101, 116, 116, 101, 114, 115]) sNil)
def c_check_letters : Con := runF 2 1 g_check_letters
def b_names_of_1 : Sto → Res Fl := sExt 1 (fBin gAdd (fLst (aCons (fVar 2) aNil)) (fVar 3))
/-- names_of(letters); slots letters, found, name, answers, title -/
def g_names_of : Sto → Res Fl := sSeq (sSet false 1 (fLst aNil)) (sSeq (sFor (.many [2, 3, 4]) (iOf (fVar 0)) b_names_of_1) (sRet (fOne gSortSet (fVar 1))))
def c_names_of : Con := runF 5 1 g_names_of
def b_told_parent_1 : Sto → Res Fl := sIf (tOf (fBin (gIn false) (fVar 1) (fSl (fVar 4) (oSome (fC (.int 1))) oNone))) (sSeq (sSet false 6 (fBin gSubs (fVar 4) (fBin gSub (fLM gLIdx (fVar 4) (fVar 1)) (fC (.int 1))))) (sPut 2 (fVar 6) (fBin gAdd (fGet2 (fVar 2) (fVar 6) (fC (.int 0))) (fC (.int 1))))) sNil
def y_told_parent_1 : Sto → Res Rs := fTup (aCons (fNeg (fBin gSubs (fVar 2) (fVar 6))) (aCons (fVar 6) aNil))
/-- told_parent(letters, name); slots letters, name, counts, other, answers, title, ahead -/
def g_told_parent : Sto → Res Fl := sSeq (sSet false 2 (fDic0)) (sSeq (sFor (.many [3, 4, 5]) (iOf (fVar 0)) b_told_parent_1) (sRet (fIf (tOf (fBin gNe0 (fVar 2) fDic0)) (fBin gSubs (fOne gMin (fComp (.one 6) [6] (iKeysF 2) tTrue y_told_parent_1)) (fC (.int 1))) (fC (.str [])))))
def c_told_parent : Con := runF 7 2 g_told_parent
def b_wanted_of_1 : Sto → Res Fl := sPut 1 (fVar 2) (fIf (tOf (fBin gNe (fVar 3) (fLst aNil))) (fBin gSubs (fVar 3) (fNeg (fC (.int 1)))) (fC (.str [])))
def b_wanted_of_2 : Sto → Res Fl := sIf (tOf (fBin (gIn true) (fVar 2) (fVar 1))) (sPut 1 (fVar 2) (fCall 2 c_told_parent (aCons (fVar 0) (aCons (fVar 2) aNil)))) sNil
/-- wanted_of(letters); slots letters, found, name, answers, title -/
def g_wanted_of : Sto → Res Fl := sSeq (sSet false 1 (fDic0)) (sSeq (sFor (.many [2, 3, 4]) (iOf (fVar 0)) b_wanted_of_1) (sSeq (sFor (.one 2) (iOf (fCall 1 c_names_of (aCons (fVar 0) aNil))) b_wanted_of_2) (sRet (fVar 1))))
def c_wanted_of : Con := runF 5 1 g_wanted_of
def t_ring_of_1 : Sto → Res Bool := tAnd' (tOf (fBin gNe (fVar 1) (fC (.str [])))) (tOf (fBin (gIn true) (fVar 1) (fVar 2)))
def b_ring_of_1 : Sto → Res Fl := sSeq (sMut lstAt 2 gApp (fVar 1)) (sSet false 1 (fBin gSubs (fVar 0) (fVar 1)))
/-- ring_of(wanted, name); slots wanted, name, line -/
def g_ring_of : Sto → Res Fl := sSeq (sSet false 2 (fLst aNil)) (sSeq (whileGo t_ring_of_1 b_ring_of_1 1000) (sRet (fIf (tOf (fBin gNe (fVar 1) (fC (.str [])))) (fSl (fVar 2) (oSome (fLM gLIdx (fVar 2) (fVar 1))) oNone) (fLst aNil))))
def c_ring_of : Con := runF 3 2 g_ring_of
def b_parents_of_1 : Sto → Res Fl := sSeq (sSet false 3 (fCall 2 c_ring_of (aCons (fVar 1) (aCons (fVar 2) aNil)))) (sIf (tOf (fBin gNe (fVar 3) (fLst aNil))) (sPut 1 (fOne gMin (fVar 3)) (fC (.str []))) sNil)
/-- parents_of(letters); slots letters, found, name, ring -/
def g_parents_of : Sto → Res Fl := sSeq (sSet false 1 (fCall 1 c_wanted_of (aCons (fVar 0) aNil))) (sSeq (sFor (.one 2) (iOf (fCall 1 c_names_of (aCons (fVar 0) aNil))) b_parents_of_1) (sRet (fVar 1)))
def c_parents_of : Con := runF 4 1 g_parents_of
def y_parents_1 : Sto → Res Rs := fTup (aCons (fVar 2) (aCons (fBin gSubs (fVar 1) (fVar 2)) aNil))
/-- parents(letters); slots letters, found, name -/
def g_parents : Sto → Res Fl := sSeq (sDrop (fCall 1 c_check_letters (aCons (fVar 0) aNil))) (sSeq (sSet false 1 (fCall 1 c_parents_of (aCons (fVar 0) aNil))) (sRet (fComp (.one 2) [2] (iOf (fOne gSorted (fOne gList (fVar 1)))) tTrue y_parents_1)))
def c_parents : Con := runF 3 1 g_parents
def y__law_letters_1 : Sto → Res Rs := fBin gSubs (fVar 8) (fBin gMod (fBin gAdd (fM1 gSIdx (fVar 8) (fVar 19)) (fVar 9)) (fC (.int 26)))
def b__law_letters_1 : Sto → Res Fl := sMut lstAt 10 gApp (fM1 gJoin (fC (.str [])) (fComp (.one 19) [19] (iOf (fVar 11)) tTrue y__law_letters_1))
def b__law_letters_2 : Sto → Res Fl := sSeq (sSet false 16 (fBin gAdd (fBin gSubs (fTup (aCons (fBin gAdd (fVar 6) (fC (.int 1))) (aCons (fBin gAdd (fVar 6) (fC (.int 2))) (aCons (fBin gMax2 (fC (.int 1)) (fVar 12)) (aCons (fC (.int 4)) aNil))))) (fVar 7)) (fC (.int 1)))) (sSeq (sSet false 17 (fBin gSubs (fVar 10) (fBin gMod (fBin gAdd (fBin gFdv (fVar 13) (fC (.int 7))) (fBin gMul (fVar 15) (fBin gAdd (fC (.int 1)) (fBin gMod (fBin gFdv (fVar 13) (fC (.int 11))) (fC (.int 3)))))) (fVar 16)))) (sIf (tAnd' (tOf (fBin gNe (fVar 17) (fBin gSubs (fVar 10) (fVar 12)))) (tAnd' (tOf (fBin (gIn true) (fVar 17) (fVar 14))) (tOf (fBin gLt (fOne gLen (fVar 14)) (fC (.int 4)))))) (sMut lstAt 14 gApp (fVar 17)) sNil))
def b__law_letters_3 : Sto → Res Fl := sSeq (sSet false 13 (fBin gFdv (fCall 3 c__law_number (aCons (fBin gSubs (fVar 3) (fBin gMod (fBin gAdd (fVar 12) (fVar 1)) (fOne gLen (fVar 3)))) (aCons (fBin gAdd (fVar 12) (fVar 1)) (aCons (fVar 4) aNil)))) (fC (.int 3)))) (sSeq (sSet false 14 (fLst aNil)) (sSeq (sFor (.one 15) (iRange1 (fBin gMod (fVar 13) (fBin gSubs (fTup (aCons (fC (.int 2)) (aCons (fC (.int 4)) (aCons (fC (.int 3)) (aCons (fC (.int 7)) aNil))))) (fVar 7)))) b__law_letters_2) (sSeq (sIf (tAnd' (tOf (fBin gEq (fVar 7) (fC (.int 2)))) (tAnd' (tOf (fBin gEq (fVar 12) (fC (.int 0)))) (tOf (fBin gGt (fVar 6) (fC (.int 1)))))) (sSet false 14 (fLst (aCons (fBin gSubs (fVar 10) (fBin gSub (fVar 6) (fC (.int 1)))) aNil))) sNil) (sSeq (sSet false 18 (fBin gSubs (fTup (aCons (fC (.str [120])) (aCons (fC (.str [114, 101, 58, 32, 120])) (aCons (fC (.str [])) (aCons (fC (.str [121])) (aCons (fC (.str [114, 101, 58, 114, 101, 58, 32, 32, 120, 32])) (aCons (fC (.str [114, 101, 58])) (aCons (fC (.str [32, 121])) (aCons (fC (.str [114, 101, 58, 32, 114, 101, 58, 32, 32, 120, 32, 121])) aNil))))))))) (fBin gMod (fBin gFdv (fVar 13) (fC (.int 101))) (fC (.int 8))))) (sSeq (sSet false 18 (fRepl 18 8 [120] (fBin gMul (fBin gMod (fBin gFdv (fVar 13) (fC (.int 808))) (fC (.int 2))) (fVar 9)))) (sMut lstAt 5 gApp (fTup (aCons (fBin gSubs (fVar 10) (fVar 12)) (aCons (fVar 14) (aCons (fIf (tOf (fBin gGt (fBin gMod (fVar 4) (fC (.int 3))) (fC (.int 0)))) (fVar 18) (fC (.str [120]))) aNil))))))))))
/-- _law_letters(_law_script, _law_by, _law_most); slots _law_script, _law_by, _law_most, _law_cells, _law_whole, _law_found, _law_many, _law_kind, _law_signs, _law_turned, _law_names, _law_name, _law_at, _law_number_here, _law_answers, _law_turn, _law_wide, _law_other, _law_title, _law_sign -/
def g__law_letters : Sto → Res Fl := sSeq (sSet false 3 (fIf (tOf (fBin gNe (fVar 0) (fLst aNil))) (fSl (fVar 0) oNone (oSome (fC (.int 63)))) (fLst (aCons (fC (.int 5)) aNil)))) (sSeq (sPar [4, 5] (aCons (fBin gAdd (fOne gSum (fVar 3)) (fVar 1)) (aCons (fLst aNil) aNil))) (sSeq (sPar [6, 7] (aCons (fBin gMod (fBin gFdv (fCall 3 c__law_number (aCons (fVar 4) (aCons (fBin gAdd (fVar 1) (fC (.int 1))) (aCons (fC (.int 3)) aNil)))) (fC (.int 3))) (fBin gAdd (fVar 2) (fC (.int 1)))) (aCons (fBin gMod (fBin gFdv (fCall 3 c__law_number (aCons (fVar 4) (aCons (fBin gAdd (fVar 1) (fC (.int 2))) (aCons (fC (.int 3)) aNil)))) (fC (.int 5))) (fC (.int 4))) aNil))) (sSeq (sUnp [8, 9, 10] (fTup (aCons (fC (.str [97, 98, 99, 100, 101, 102, 103, 104, 105, 106, 107, 108, 109, 110, 111, 112, 113, 114, 115, 116, 117, 118, 119, 120, 121, 122])) (aCons (fBin gMod (fBin gFdv (fCall 3 c__law_number (aCons (fVar 4) (aCons (fBin gAdd (fVar 1) (fC (.int 4))) (aCons (fC (.int 5)) aNil)))) (fC (.int 3))) (fC (.int 26))) (aCons (fLst aNil) aNil))))) (sSeq (sFor (.one 11) (iOf (fTup (aCons (fC (.str [100])) (aCons (fC (.str [100, 101])) (aCons (fC (.str [102])) (aCons (fC (.str [97])) (aCons (fC (.str [101, 99])) (aCons (fC (.str [99])) (aCons (fC (.str [104])) (aCons (fC (.str [104, 107, 99])) (aCons (fC (.str [105])) (aCons (fC (.str [109])) (aCons (fC (.str [109, 106])) (aCons (fC (.str [108])) aNil)))))))))))))) b__law_letters_1) (sSeq (sFor (.one 12) (iRange1 (fVar 6)) b__law_letters_3) (sRet (fVar 5)))))))
def c__law_letters : Con := runF 20 3 g__law_letters
def y__law_copied_1 : Sto → Res Rs := fTup (aCons (fVar 1) (aCons (fOne gList (fVar 2)) (aCons (fVar 3) aNil)))
/-- _law_copied(_law_letters_here); slots _law_letters_here, _law_name, _law_answers, _law_title -/
def g__law_copied : Sto → Res Fl := sRet (fComp (.many [1, 2, 3]) [1, 2, 3] (iOf (fVar 0)) tTrue y__law_copied_1)
def c__law_copied : Con := runF 4 1 g__law_copied
def b__law_wanted_1 : Sto → Res Fl := sPut 2 (fVar 7) (fBin gAdd (fGet2 (fVar 2) (fVar 7) (fLst aNil)) (fLst (aCons (fVar 6) aNil)))
def b__law_wanted_2 : Sto → Res Fl := sSetd 1 (fVar 8) (fC (.str []))
def b__law_wanted_3 : Sto → Res Fl := sSeq (sFor (.many [6, 7]) (iZipF (fVar 4) (fSl (fVar 4) (oSome (fC (.int 1))) oNone)) b__law_wanted_1) (sFor (.one 8) (iOf (fVar 4)) b__law_wanted_2)
def y__law_wanted_1 : Sto → Res Rs := fLM gLCnt (fBin gSubs (fVar 2) (fVar 3)) (fVar 6)
def q__law_wanted_1 : Sto → Res Bool := tOf (fBin gEq (fLM gLCnt (fBin gSubs (fVar 2) (fVar 3)) (fVar 6)) (fVar 9))
def y__law_wanted_2 : Sto → Res Rs := fVar 6
def b__law_wanted_4 : Sto → Res Fl := sSeq (sSet false 9 (fOne gMax (fComp (.one 6) [6] (iOf (fBin gSubs (fVar 2) (fVar 3))) tTrue y__law_wanted_1))) (sPut 1 (fVar 3) (fBin gSubs (fOne gSorted (fComp (.one 6) [6] (iOf (fBin gSubs (fVar 2) (fVar 3))) q__law_wanted_1 y__law_wanted_2)) (fC (.int 0))))
def b__law_wanted_5 : Sto → Res Fl := sPut 1 (fVar 3) (fIf (tOf (fBin gNe (fVar 4) (fLst aNil))) (fBin gSubs (fVar 4) (fNeg (fC (.int 1)))) (fC (.str [])))
/-- _law_wanted(_law_letters_here); slots _law_letters_here, _law_found, _law_told, _law_name, _law_answers, _law_title, _law_ahead, _law_behind, _law_other, _law_most -/
def g__law_wanted : Sto → Res Fl := sSeq (sUnp [1, 2] (fTup (aCons fDic0 (aCons fDic0 aNil)))) (sSeq (sFor (.many [3, 4, 5]) (iOf (fVar 0)) b__law_wanted_3) (sSeq (sForD (.one 3) 2 b__law_wanted_4) (sSeq (sFor (.many [3, 4, 5]) (iOf (fVar 0)) b__law_wanted_5) (sRet (fVar 1)))))
def c__law_wanted : Con := runF 10 1 g__law_wanted
def t__law_parents_1 : Sto → Res Bool := tAnd' (tOf (fBin gNe (fVar 5) (fC (.str [])))) (tAnd' (tOf (fBin gNe (fVar 5) (fVar 3))) (tOf (fBin gLe (fOne gLen (fVar 4)) (fOne gLen (fVar 1)))))
def b__law_parents_1 : Sto → Res Fl := sSeq (sMut lstAt 4 gApp (fVar 5)) (sSet false 5 (fBin gSubs (fVar 1) (fVar 5)))
def b__law_parents_2 : Sto → Res Fl := sSeq (sPar [4, 5] (aCons (fLst (aCons (fVar 3) aNil)) (aCons (fBin gSubs (fVar 1) (fVar 3)) aNil))) (sSeq (whileGo t__law_parents_1 b__law_parents_1 1000) (sIf (tAnd' (tOf (fBin gEq (fVar 5) (fVar 3))) (tOf (fBin gEq (fVar 3) (fOne gMin (fVar 4))))) (sPut 2 (fVar 3) (fC (.str []))) sNil))
/-- _law_parents(_law_letters_here); slots _law_letters_here, _law_wanted_here, _law_found, _law_name, _law_ring, _law_here -/
def g__law_parents : Sto → Res Fl := sSeq (sSet false 1 (fCall 1 c__law_wanted (aCons (fVar 0) aNil))) (sSeq (sSet false 2 (fOne gDict (fVar 1))) (sSeq (sForD (.one 3) 1 b__law_parents_2) (sRet (fVar 2))))
def c__law_parents : Con := runF 6 1 g__law_parents
/-- check_known(letters, name); slots letters, name -/
def g_check_known : Sto → Res Fl := sSeq (sDrop (fCall 1 c_check_letters (aCons (fVar 0) aNil))) (sIf (tOr' (tNot' (tOf (fOne (gIsi (isT "str") noOwn) (fVar 1)))) (tOf (fBin (gIn true) (fVar 1) (fCall 1 c_names_of (aCons (fVar 0) aNil))))) (sRaise [66, 97, 100, 78, 97, 109, 101]) sNil)
def c_check_known : Con := runF 2 2 g_check_known
def q_children_of_1 : Sto → Res Bool := tOf (fBin gEq (fBin gSubs (fVar 0) (fVar 2)) (fVar 1))
def y_children_of_1 : Sto → Res Rs := fVar 2
/-- children_of(found, name); slots found, name, one -/
def g_children_of : Sto → Res Fl := sRet (fOne gSorted (fComp (.one 2) [2] (iKeysF 0) q_children_of_1 y_children_of_1))
def c_children_of : Con := runF 3 2 g_children_of
def t_line_of_1 : Sto → Res Bool := tOf (fBin gNe (fBin gSubs (fVar 0) (fBin gSubs (fVar 2) (fNeg (fC (.int 1))))) (fC (.str [])))
def b_line_of_1 : Sto → Res Fl := sMut lstAt 2 gApp (fBin gSubs (fVar 0) (fBin gSubs (fVar 2) (fNeg (fC (.int 1)))))
/-- line_of(found, name); slots found, name, line -/
def g_line_of : Sto → Res Fl := sSeq (sSet false 2 (fLst (aCons (fVar 1) aNil))) (sSeq (whileGo t_line_of_1 b_line_of_1 1000) (sRet (fOne gRev (fVar 2))))
def c_line_of : Con := runF 3 2 g_line_of
/-- tops(letters); slots letters -/
def g_tops : Sto → Res Fl := sSeq (sDrop (fCall 1 c_check_letters (aCons (fVar 0) aNil))) (sRet (fCall 2 c_children_of (aCons (fCall 1 c_parents_of (aCons (fVar 0) aNil)) (aCons (fC (.str [])) aNil))))
def c_tops : Con := runF 1 1 g_tops
/-- children(letters, name); slots letters, name -/
def g_children : Sto → Res Fl := sSeq (sDrop (fCall 2 c_check_known (aCons (fVar 0) (aCons (fVar 1) aNil)))) (sRet (fCall 2 c_children_of (aCons (fCall 1 c_parents_of (aCons (fVar 0) aNil)) (aCons (fVar 1) aNil))))
def c_children : Con := runF 2 2 g_children
/-- line(letters, name); slots letters, name -/
def g_line : Sto → Res Fl := sSeq (sDrop (fCall 2 c_check_known (aCons (fVar 0) (aCons (fVar 1) aNil)))) (sRet (fCall 2 c_line_of (aCons (fCall 1 c_parents_of (aCons (fVar 0) aNil)) (aCons (fVar 1) aNil))))
def c_line : Con := runF 2 2 g_line
def q_below_1 : Sto → Res Bool := tAnd' (tOf (fBin gNe (fVar 3) (fVar 1))) (tOf (fBin (gIn false) (fVar 1) (fCall 2 c_line_of (aCons (fVar 2) (aCons (fVar 3) aNil)))))
def y_below_1 : Sto → Res Rs := fVar 3
/-- below(letters, name); slots letters, name, found, one -/
def g_below : Sto → Res Fl := sSeq (sDrop (fCall 2 c_check_known (aCons (fVar 0) (aCons (fVar 1) aNil)))) (sSeq (sSet false 2 (fCall 1 c_parents_of (aCons (fVar 0) aNil))) (sRet (fComp (.one 3) [3] (iOf (fOne gSorted (fOne gList (fVar 2)))) q_below_1 y_below_1)))
def c_below : Con := runF 4 2 g_below
def t__law_line_1 : Sto → Res Bool := tOf (fBin gNe (fBin gSubs (fVar 0) (fBin gSubs (fVar 2) (fC (.int 0)))) (fC (.str [])))
def b__law_line_1 : Sto → Res Fl := sMut lstAt 2 gIns (fBin gSubs (fVar 0) (fBin gSubs (fVar 2) (fC (.int 0))))
/-- _law_line(_law_found, _law_name); slots _law_found, _law_name, _law_way -/
def g__law_line : Sto → Res Fl := sSeq (sSet false 2 (fLst (aCons (fVar 1) aNil))) (sSeq (whileGo t__law_line_1 b__law_line_1 1000) (sRet (fVar 2)))
def c__law_line : Con := runF 3 2 g__law_line
def b_split_of_1 : Sto → Res Fl := sPut 2 (fVar 4) (fCall 1 c_bare_of (aCons (fVar 6) aNil))
def q_split_of_1 : Sto → Res Bool := tOf (fBin (gIn false) (fVar 8) (fVar 2))
def y_split_of_1 : Sto → Res Rs := fVar 8
def b_split_of_2 : Sto → Res Fl := sSeq (sSet false 7 (fComp (.one 8) [8] (iOf (fSl (fCall 2 c_line_of (aCons (fVar 1) (aCons (fVar 4) aNil))) oNone (oSome (fNeg (fC (.int 1)))))) q_split_of_1 y_split_of_1)) (sIf (tAnd' (tOf (fBin gNe (fVar 7) (fLst aNil))) (tOf (fBin gNe (fBin gSubs (fVar 2) (fBin gSubs (fVar 7) (fNeg (fC (.int 1))))) (fBin gSubs (fVar 2) (fVar 4))))) (sMut lstAt 3 gApp (fVar 4)) sNil)
/-- split_of(letters, found); slots letters, found, titles, some, name, answers, title, above, one -/
def g_split_of : Sto → Res Fl := sSeq (sUnp [2, 3] (fTup (aCons fDic0 (aCons (fLst aNil) aNil)))) (sSeq (sFor (.many [4, 5, 6]) (iOf (fVar 0)) b_split_of_1) (sSeq (sFor (.one 4) (iOf (fOne gSorted (fOne gList (fVar 2)))) b_split_of_2) (sRet (fVar 3))))
def c_split_of : Con := runF 9 2 g_split_of
def b_tied_of_1 : Sto → Res Fl := sPut 2 (fVar 5) (fCall 1 c_bare_of (aCons (fVar 7) aNil))
def q_tied_of_1 : Sto → Res Bool := tOf (fBin (gIn true) (fVar 9) (fVar 3))
def y_tied_of_1 : Sto → Res Rs := fVar 9
def q_tied_of_2 : Sto → Res Bool := tAnd' (tOf (fBin gEq (fGet2 (fVar 2) (fVar 10) (fC (.str []))) (fBin gSubs (fVar 2) (fVar 5)))) (tOf (fBin gNe (fVar 10) (fVar 5)))
def y_tied_of_2 : Sto → Res Rs := fVar 10
def b_tied_of_2 : Sto → Res Fl := sSeq (sPut 4 (fVar 5) (fComp (.one 9) [9] (iOf (fCall 2 c_children_of (aCons (fVar 1) (aCons (fVar 5) aNil)))) q_tied_of_1 y_tied_of_1)) (sIf (tAnd' (tOf (fBin gNe (fBin gSubs (fVar 1) (fVar 5)) (fC (.str [])))) (tOf (fBin (gIn true) (fVar 5) (fVar 3)))) (sAppIn 4 (fVar 5) (fBin gSubs (fVar 1) (fVar 5))) (sIf (tAnd' (tOf (fBin gEq (fBin gSubs (fVar 1) (fVar 5)) (fC (.str [])))) (tOf (fBin gNe (fGet2 (fVar 2) (fVar 5) (fC (.str []))) (fC (.str []))))) (sSeq (sSet false 8 (fComp (.one 10) [10] (iOf (fCall 2 c_children_of (aCons (fVar 1) (aCons (fC (.str [])) aNil)))) q_tied_of_2 y_tied_of_2)) (sExtIn 4 (fVar 5) (fVar 8))) sNil))
/-- tied_of(letters); slots letters, found, titles, split, near, name, answers, title, alike, child, top -/
def g_tied_of : Sto → Res Fl := sSeq (sUnp [1, 2] (fTup (aCons (fCall 1 c_parents_of (aCons (fVar 0) aNil)) (aCons fDic0 aNil)))) (sSeq (sUnp [3, 4] (fTup (aCons (fCall 2 c_split_of (aCons (fVar 0) (aCons (fVar 1) aNil))) (aCons fDic0 aNil)))) (sSeq (sFor (.many [5, 6, 7]) (iOf (fVar 0)) b_tied_of_1) (sSeq (sForD (.one 5) 1 b_tied_of_2) (sRet (fVar 4)))))
def c_tied_of : Con := runF 11 1 g_tied_of
/-- row_of(text); slots text, bare, many, gap, name -/
def g_row_of : Sto → Res Fl := sSeq (sSet false 1 (fM1 gLstrip (fVar 0) (fC (.str [32])))) (sSeq (sSet false 2 (fBin gSub (fOne gLen (fVar 0)) (fOne gLen (fVar 1)))) (sSeq (sSet false 3 (fAnd (fBin gEq (fSl (fVar 1) oNone (oSome (fC (.int 1)))) (fC (.str [40]))) (fBin gEq (fSl (fVar 1) (oSome (fNeg (fC (.int 1)))) oNone) (fC (.str [41]))))) (sSeq (sSet true 4 (fIf (tOf (fVar 3)) (fSl (fVar 1) (oSome (fC (.int 1))) (oSome (fNeg (fC (.int 1))))) (fVar 1))) (sRet (fIf (tAnd' (tOf (fBin gEq (fBin gMod (fVar 2) (fC (.int 2))) (fC (.int 0)))) (tOf (fCall 1 c_is_name (aCons (fVar 4) aNil)))) (fTup (aCons (fBin gFdv (fVar 2) (fC (.int 2))) (aCons (fVar 4) (aCons (fVar 3) aNil)))) (fC .non))))))
def c_row_of : Con := runF 5 1 g_row_of
def y_read_of_1 : Sto → Res Rs := fBin gSubs (fVar 6) (fC (.int 0))
def b_read_of_1 : Sto → Res Fl := sSeq (sSet false 5 (fCall 1 c_row_of (aCons (fVar 4) aNil))) (sSeq (sIf (tOr' (tOf (fBin (gIs false) (fVar 5) (fC .non))) (tOr' (tOf (fBin gGt (fBin gSubs (fVar 5) (fC (.int 0))) (fOne gLen (fVar 2)))) (tOf (fBin (gIn false) (fBin gSubs (fVar 5) (fC (.int 1))) (fComp (.one 6) [6] (iOf (fVar 1)) tTrue y_read_of_1))))) (sRet (fTup (aCons (fVar 1) (aCons (fVar 3) aNil)))) sNil) (sSeq (sSet false 2 (fBin gAdd (fSl (fVar 2) oNone (oSome (fBin gSubs (fVar 5) (fC (.int 0))))) (fLst (aCons (fBin gSubs (fVar 5) (fC (.int 1))) aNil)))) (sMut lstAt 1 gApp (fTup (aCons (fBin gSubs (fVar 5) (fC (.int 1))) (aCons (fBin gSubs (fVar 5) (fC (.int 2))) (aCons (fIf (tOf (fBin gGt (fOne gLen (fVar 2)) (fC (.int 1)))) (fBin gSubs (fVar 2) (fNeg (fC (.int 2)))) (fC (.str []))) aNil)))))))
/-- read_of(rows); slots rows, found, line, at, text, row, one -/
def g_read_of : Sto → Res Fl := sSeq (sPar [1, 2] (aCons (fLst aNil) (aCons (fLst aNil) aNil))) (sSeq (sFor (.many [3, 4]) (iEnumF (fVar 0)) b_read_of_1) (sRet (fTup (aCons (fOne gSorted (fVar 1)) (aCons (fNeg (fC (.int 1))) aNil)))))
def c_read_of : Con := runF 7 1 g_read_of
/-- _law_says(_law_said, _law_due_here); slots _law_said, _law_due_here -/
def g__law_says : Sto → Res Fl := sRet (fAnd (fOne (gIsi (isT "bool") noOwn) (fVar 0)) (fBin gEq (fVar 0) (fVar 1)))
def c__law_says : Con := runF 2 2 g__law_says
/-- _law_says(_law_said, _law_due); slots _law_said, _law_due -/
def g__law_says_v2 : Sto → Res Fl := sRet (fAnd (fOne (gIsi (isT "bool") noOwn) (fVar 0)) (fBin gEq (fVar 0) (fVar 1)))
def c__law_says_v2 : Con := runF 2 2 g__law_says_v2
/-- split(letters); slots letters -/
def g_split : Sto → Res Fl := sSeq (sDrop (fCall 1 c_check_letters (aCons (fVar 0) aNil))) (sRet (fCall 2 c_split_of (aCons (fVar 0) (aCons (fCall 1 c_parents_of (aCons (fVar 0) aNil)) aNil))))
def c_split : Con := runF 1 1 g_split
def b_ways_from_1 : Sto → Res Fl := sIf (tOf (fBin (gIn true) (fVar 6) (fVar 2))) (sSeq (sPut 2 (fVar 6) (fBin gAdd (fBin gSubs (fVar 2) (fVar 5)) (fLst (aCons (fVar 6) aNil)))) (sMut lstAt 4 gApp (fVar 6))) sNil
def b_ways_from_2 : Sto → Res Fl := sFor (.one 6) (iOf (fOne gSorted (fBin gSubs (fVar 0) (fVar 5)))) b_ways_from_1
def t_ways_from_1 : Sto → Res Bool := tOf (fBin gNe (fVar 3) (fLst aNil))
def b_ways_from_3 : Sto → Res Fl := sSeq (sSet false 4 (fLst aNil)) (sSeq (sFor (.one 5) (iOf (fVar 3)) b_ways_from_2) (sSet true 3 (fVar 4)))
/-- ways_from(near, first); slots near, first, ways, line, more, name, other -/
def g_ways_from : Sto → Res Fl := sSeq (sPar [2, 3] (aCons (fDic1 (fVar 1) (fLst (aCons (fVar 1) aNil))) (aCons (fLst (aCons (fVar 1) aNil)) aNil))) (sSeq (whileGo t_ways_from_1 b_ways_from_3 1000) (sRet (fVar 2)))
def c_ways_from : Con := runF 7 2 g_ways_from
def y_talks_1 : Sto → Res Rs := fBin gSubs (fVar 8) (fC (.int 0))
def q_talks_1 : Sto → Res Bool := tOf (fBin (gIn false) (fVar 6) (fCall 2 c_ways_from (aCons (fVar 1) (aCons (fVar 5) aNil))))
def y_talks_2 : Sto → Res Rs := fVar 6
def b_talks_1 : Sto → Res Fl := sPut 3 (fVar 6) (fC (.bl true))
def b_talks_2 : Sto → Res Fl := sIf (tOf (fBin (gIn true) (fVar 5) (fVar 3))) (sSeq (sSet false 7 (fComp (.one 6) [6] (iOf (fVar 4)) q_talks_1 y_talks_2)) (sSeq (sFor (.one 6) (iOf (fVar 7)) b_talks_1) (sMut lstAt 2 gApp (fVar 7)))) sNil
/-- talks(letters); slots letters, near, found, seen, here, name, other, lot, letter -/
def g_talks : Sto → Res Fl := sSeq (sDrop (fCall 1 c_check_letters (aCons (fVar 0) aNil))) (sSeq (sUnp [1, 2, 3] (fTup (aCons (fCall 1 c_tied_of (aCons (fVar 0) aNil)) (aCons (fLst aNil) (aCons fDic0 aNil))))) (sSeq (sSet false 4 (fOne gSorted (fComp (.one 8) [8] (iOf (fVar 0)) tTrue y_talks_1))) (sSeq (sFor (.one 5) (iOf (fVar 4)) b_talks_2) (sRet (fVar 2)))))
def c_talks : Con := runF 9 1 g_talks
def b__law_cut_off_1 : Sto → Res Fl := sPut 2 (fVar 4) (fCall 1 c__law_bare (aCons (fVar 6) aNil))
def t__law_cut_off_1 : Sto → Res Bool := tAnd' (tOf (fBin gNe (fVar 7) (fC (.str [])))) (tOf (fBin (gIn true) (fVar 7) (fVar 2)))
def b__law_cut_off_2 : Sto → Res Fl := sSet false 7 (fBin gSubs (fVar 1) (fVar 7))
def b__law_cut_off_3 : Sto → Res Fl := sSeq (sSet false 7 (fBin gSubs (fVar 1) (fVar 4))) (sSeq (whileGo t__law_cut_off_1 b__law_cut_off_2 1000) (sIf (tAnd' (tOf (fBin gNe (fVar 7) (fC (.str [])))) (tOf (fBin gNe (fBin gSubs (fVar 2) (fVar 7)) (fBin gSubs (fVar 2) (fVar 4))))) (sMut lstAt 3 gApp (fVar 4)) sNil))
/-- _law_cut_off(_law_letters_here, _law_found); slots _law_letters_here, _law_found, _law_titles, _law_some, _law_name, _law_answers, _law_title, _law_here -/
def g__law_cut_off : Sto → Res Fl := sSeq (sPar [2, 3] (aCons fDic0 (aCons (fLst aNil) aNil))) (sSeq (sFor (.many [4, 5, 6]) (iOf (fVar 0)) b__law_cut_off_1) (sSeq (sForD (.one 4) 2 b__law_cut_off_3) (sRet (fOne gSorted (fVar 3)))))
def c__law_cut_off : Con := runF 8 2 g__law_cut_off
def b__law_ties_1 : Sto → Res Fl := sPut 2 (fVar 5) (fCall 1 c__law_bare (aCons (fVar 7) aNil))
def b__law_ties_2 : Sto → Res Fl := sSeq (sSet false 9 (fAnd (fBin gEq (fBin gSubs (fVar 1) (fVar 5)) (fC (.str []))) (fAnd (fBin gEq (fBin gSubs (fVar 1) (fVar 8)) (fC (.str []))) (fBin gNe (fVar 5) (fVar 8))))) (sIf (tAnd' (tOf (fVar 9)) (tAnd' (tOf (fBin gNe (fGet2 (fVar 2) (fVar 5) (fC (.str []))) (fC (.str [])))) (tOf (fBin gEq (fGet2 (fVar 2) (fVar 5) (fC (.str []))) (fGet2 (fVar 2) (fVar 8) (fC (.str []))))))) (sMut lstAt 3 gApp (fTup (aCons (fVar 5) (aCons (fVar 8) aNil)))) sNil)
def b__law_ties_3 : Sto → Res Fl := sSeq (sIf (tAnd' (tOf (fBin gNe (fBin gSubs (fVar 1) (fVar 5)) (fC (.str [])))) (tOf (fBin (gIn true) (fVar 5) (fVar 4)))) (sExt 3 (fLst (aCons (fTup (aCons (fVar 5) (aCons (fBin gSubs (fVar 1) (fVar 5)) aNil))) (aCons (fTup (aCons (fBin gSubs (fVar 1) (fVar 5)) (aCons (fVar 5) aNil))) aNil)))) sNil) (sForD (.one 8) 1 b__law_ties_2)
/-- _law_ties(_law_letters_here); slots _law_letters_here, _law_found, _law_titles, _law_pairs, _law_apart, _law_name, _law_answers, _law_title, _law_other, _law_both -/
def g__law_ties : Sto → Res Fl := sSeq (sPar [1, 2, 3] (aCons (fCall 1 c__law_parents (aCons (fVar 0) aNil)) (aCons fDic0 (aCons (fLst aNil) aNil)))) (sSeq (sSet false 4 (fCall 2 c__law_cut_off (aCons (fVar 0) (aCons (fVar 1) aNil)))) (sSeq (sFor (.many [5, 6, 7]) (iOf (fVar 0)) b__law_ties_1) (sSeq (sForD (.one 5) 1 b__law_ties_3) (sRet (fVar 3)))))
def c__law_ties : Con := runF 10 1 g__law_ties
def q__law_lot_1 : Sto → Res Bool := tAnd' (tOf (fBin (gIn false) (fVar 4) (fVar 2))) (tOf (fBin (gIn true) (fVar 5) (fVar 2)))
def y__law_lot_1 : Sto → Res Rs := fVar 5
def t__law_lot_1 : Sto → Res Bool := tOf (fBin gNe (fVar 3) (fLst aNil))
def b__law_lot_1 : Sto → Res Fl := sSeq (sSet false 3 (fSl (fComp (.many [4, 5]) [4, 5] (iOf (fVar 0)) q__law_lot_1 y__law_lot_1) oNone (oSome (fC (.int 1))))) (sSet false 2 (fBin gAdd (fVar 2) (fVar 3)))
/-- _law_lot(_law_pairs, _law_first); slots _law_pairs, _law_first, _law_found, _law_more, _law_here, _law_there -/
def g__law_lot : Sto → Res Fl := sSeq (sUnp [2, 3] (fTup (aCons (fLst (aCons (fVar 1) aNil)) (aCons (fLst (aCons (fVar 1) aNil)) aNil)))) (sSeq (whileGo t__law_lot_1 b__law_lot_1 1000) (sRet (fOne gSorted (fVar 2))))
def c__law_lot : Con := runF 6 2 g__law_lot
/-- check_letter(letter); slots letter -/
def g_check_letter : Sto → Res Fl := sIf (tNot' (tOf (fCall 1 c_is_letter (aCons (fVar 0) aNil)))) (sRaise [66, 97, 100, 76, 101, 116, 116, 101, 114]) sNil
def c_check_letter : Con := runF 1 1 g_check_letter
def y_copied_1 : Sto → Res Rs := fTup (aCons (fVar 1) (aCons (fOne gList (fVar 2)) (aCons (fVar 3) aNil)))
/-- copied(letters); slots letters, name, answers, title -/
def g_copied : Sto → Res Fl := sRet (fComp (.many [1, 2, 3]) [1, 2, 3] (iOf (fVar 0)) tTrue y_copied_1)
def c_copied : Con := runF 4 1 g_copied
def b_changes_of_1 : Sto → Res Fl := sIf (tOf (fBin gNe (fGet1 (fVar 0) (fVar 3)) (fGet1 (fVar 1) (fVar 3)))) (sMut lstAt 2 gApp (fTup (aCons (fVar 3) (aCons (fGet1 (fVar 0) (fVar 3)) (aCons (fGet1 (fVar 1) (fVar 3)) aNil))))) sNil
/-- changes_of(before, after); slots before, after, found, name -/
def g_changes_of : Sto → Res Fl := sSeq (sSet false 2 (fLst aNil)) (sSeq (sFor (.one 3) (iOf (fOne gSortSet (fBin gAdd (fOne gList (fVar 0)) (fOne gList (fVar 1))))) b_changes_of_1) (sRet (fVar 2)))
def c_changes_of : Con := runF 4 2 g_changes_of
def t__wall_1 : Sto → Res Bool := tOf (fC (.bl true))
def b__wall_1 : Sto → Res Fl := sPass
/-- _wall(k); slots k -/
def g__wall : Sto → Res Fl := whileGo t__wall_1 b__wall_1 1000
def c__wall : Con := runF 1 1 g__wall
/-- Together.shows(self, letters, one, other); slots self, letters, one, other -/
def g_Together_shows_v2 : Sto → Res Fl := sDrop (fCall 1 c__wall (aCons (fC (.int 0)) aNil))
def c_Together_shows_v2 : Con := runF 4 4 g_Together_shows_v2
/-- Apart.shows(self, letters, one, other); slots self, letters, one, other -/
def g_Apart_shows_v2 : Sto → Res Fl := sDrop (fCall 1 c__wall (aCons (fC (.int 1)) aNil))
def c_Apart_shows_v2 : Con := runF 4 4 g_Apart_shows_v2
/-- Forest.shows(self, rows); slots self, rows -/
def g_Forest_shows_v2 : Sto → Res Fl := sDrop (fCall 1 c__wall (aCons (fC (.int 2)) aNil))
def c_Forest_shows_v2 : Con := runF 2 2 g_Forest_shows_v2
/-- Wrong.shows(self, rows); slots self, rows -/
def g_Wrong_shows_v2 : Sto → Res Fl := sDrop (fCall 1 c__wall (aCons (fC (.int 3)) aNil))
def c_Wrong_shows_v2 : Con := runF 2 2 g_Wrong_shows_v2
def y_law_1 : Sto → Res Rs := fTup (aCons (fVar 11) (aCons (fBin gSubs (fVar 5) (fVar 11)) aNil))
def y_law_2 : Sto → Res Rs := fOne (gIsi (isT "tuple") noOwn) (fVar 10)
def b_law_1 : Sto → Res Fl := sSeq (sSet false 7 (fCall 1 c_parents (aCons (fVar 4) aNil))) (sSeq (sIf (tOr' (tNot' (tOf (fOne (gIsi (isT "list") noOwn) (fVar 7)))) (tOr' (tOf (fBin gNe (fVar 7) (fOne gSorted (fComp (.one 11) [11] (iKeysF 5) tTrue y_law_1)))) (tOf (fBin gNe (fVar 4) (fVar 3))))) (sRet (fC (.bl false))) sNil) (sSeq (sIf (tNot' (tOf (fOne gAll (fComp (.one 10) [10] (iOf (fVar 7)) tTrue y_law_2)))) (sRet (fC (.bl false))) sNil) (sMut lstAt 7 gApp (fTup (aCons (fC (.str [])) (aCons (fC (.str [])) aNil))))))
def y_law_3 : Sto → Res Rs := fTup (aCons (fVar 11) (aCons (fBin gSubs (fVar 5) (fVar 11)) aNil))
def b_law_2 : Sto → Res Fl := sIf (tOf (fBin gNe (fCall 1 c_parents (aCons (fVar 9) aNil)) (fOne gSorted (fComp (.one 11) [11] (iKeysF 5) tTrue y_law_3)))) (sRet (fC (.bl false))) sNil
def b_law_3 : Sto → Res Fl := sSeq (sSet false 3 (fCall 3 c__law_letters (aCons (fVar 0) (aCons (fVar 2) (aCons (fC (.int 9)) aNil))))) (sSeq (sUnp [4, 5] (fTup (aCons (fCall 1 c__law_copied (aCons (fVar 3) aNil)) (aCons (fCall 1 c__law_parents (aCons (fVar 3) aNil)) aNil)))) (sSeq (sFor (.one 6) (iRange1 (fC (.int 2))) b_law_1) (sIf (tOf (fBin gNe (fVar 3) (fLst aNil))) (sSeq (sSet false 8 (fBin gMod (fVar 1) (fOne gLen (fVar 3)))) (sFor (.one 9) (iOf (fLst (aCons (fOne gRev (fVar 3)) (aCons (fBin gAdd (fSl (fVar 3) (oSome (fVar 8)) oNone) (fSl (fVar 3) oNone (oSome (fVar 8)))) (aCons (fOne gSorted (fVar 3)) aNil))))) b_law_2)) sNil)))
/-- law(_law_script); slots _law_script, _law_whole, _law_by, _law_letters_here, _law_handed, _law_due, _law_again, _law_found, _law_turn, _law_other, _law_pair, _law_name -/
def g_law : Sto → Res Fl := sSeq (sSet false 1 (fOne gSum (fSl (fVar 0) oNone (oSome (fC (.int 63)))))) (sSeq (sFor (.one 2) (iRange1 (fC (.int 4))) b_law_3) (sSeq (sIf (tOf (fBin gNe (fCall 1 c_parents (aCons (fLst (aCons (fTup (aCons (fC (.str [98])) (aCons (fLst (aCons (fC (.str [99])) aNil)) (aCons (fC (.str [])) aNil)))) (aCons (fTup (aCons (fC (.str [99])) (aCons (fLst (aCons (fC (.str [98])) aNil)) (aCons (fC (.str [])) aNil)))) aNil))) aNil)) (fLst (aCons (fTup (aCons (fC (.str [98])) (aCons (fC (.str [])) aNil))) (aCons (fTup (aCons (fC (.str [99])) (aCons (fC (.str [98])) aNil))) aNil))))) (sRet (fC (.bl false))) sNil) (sSeq (sSet false 3 (fLst (aCons (fTup (aCons (fC (.str [97])) (aCons (fLst (aCons (fC (.str [122])) (aCons (fC (.str [121])) aNil))) (aCons (fC (.str [])) aNil)))) (aCons (fTup (aCons (fC (.str [98])) (aCons (fLst (aCons (fC (.str [122])) (aCons (fC (.str [121])) aNil))) (aCons (fC (.str [])) aNil)))) (aCons (fTup (aCons (fC (.str [99])) (aCons (fLst (aCons (fC (.str [120])) (aCons (fC (.str [121])) aNil))) (aCons (fC (.str [])) aNil)))) aNil))))) (sSeq (sIf (tOf (fBin gNe (fSl (fCall 1 c_parents (aCons (fVar 3) aNil)) (oSome (fC (.int 3))) oNone) (fLst (aCons (fTup (aCons (fC (.str [120])) (aCons (fC (.str [])) aNil))) (aCons (fTup (aCons (fC (.str [121])) (aCons (fC (.str [122])) aNil))) (aCons (fTup (aCons (fC (.str [122])) (aCons (fC (.str [])) aNil))) aNil)))))) (sRet (fC (.bl false))) sNil) (sSeq (sSet false 7 (fCall 1 c_parents (aCons (fLst (aCons (fTup (aCons (fC (.str [97])) (aCons (fLst (aCons (fC (.str [120])) (aCons (fC (.str [121])) aNil))) (aCons (fC (.str [])) aNil)))) (aCons (fTup (aCons (fC (.str [98])) (aCons (fLst (aCons (fC (.str [122])) (aCons (fC (.str [121])) aNil))) (aCons (fC (.str [])) aNil)))) aNil))) aNil))) (sRet (fBin gEq (fVar 7) (fLst (aCons (fTup (aCons (fC (.str [97])) (aCons (fC (.str [121])) aNil))) (aCons (fTup (aCons (fC (.str [98])) (aCons (fC (.str [121])) aNil))) (aCons (fTup (aCons (fC (.str [120])) (aCons (fC (.str [])) aNil))) (aCons (fTup (aCons (fC (.str [121])) (aCons (fC (.str [120])) aNil))) (aCons (fTup (aCons (fC (.str [122])) (aCons (fC (.str [])) aNil))) aNil)))))))))))))
def c_law : Con := runF 12 1 g_law
end PV

/-! order: texts, what sorted, min and max tell -/
namespace PV
open PySem PySem.Spec L2
def ltT (a b : Tx) : Bool := decide (a < b)
theorem ltT_irrefl (a : Tx) : ltT a a = false := decide_eq_false (List.lt_irrefl a)
theorem ltT_trans {a b c : Tx} (h : ltT a b = true) (h2 : ltT b c = true) : ltT a c = true := decide_eq_true (List.lt_trans (of_decide_eq_true h) (of_decide_eq_true h2))
theorem ltT_asymm {a b : Tx} (h : ltT a b = true) : ltT b a = false := decide_eq_false (List.lt_asymm (of_decide_eq_true h))
theorem ltT_tot : ∀ {a b : Tx}, ltT a b = false → ltT b a = false → a = b
  | [], [], _, _ => rfl
  | [], _ :: _, h, _ => absurd (List.nil_lt_cons _ _) (of_decide_eq_false h)
  | _ :: _, [], _, h => absurd (List.nil_lt_cons _ _) (of_decide_eq_false h)
  | x :: a, y :: b, h, h2 => by
    have h := of_decide_eq_false h
    have h2 := of_decide_eq_false h2
    rw [List.cons_lt_cons_iff] at h h2
    have e : x = y := by
      by_cases h3 : x < y
      · exact absurd (.inl h3) h
      · by_cases h4 : y < x
        · exact absurd (.inl h4) h2
        · omega
    subst e
    rw [ltT_tot (a := a) (b := b) (decide_eq_false fun z => h (.inr ⟨rfl, z⟩)) (decide_eq_false fun z => h2 (.inr ⟨rfl, z⟩))]
theorem ltT_ntrans {a b c : Tx} (h : ltT b a = false) (h2 : ltT c b = false) : ltT c a = false := by
  cases e : ltT c a with
  | false => rfl
  | true =>
    cases e2 : ltT b c with
    | true => exact absurd (ltT_trans e2 e) (by rw [h]; decide)
    | false =>
      have := ltT_tot e2 h2
      subst this
      rw [h] at e
      cases e
theorem ltT_of_ne {a b : Tx} (h : ltT b a = false) (n : a ≠ b) : ltT a b = true := by
  cases e : ltT a b with
  | true => rfl
  | false => exact absurd (ltT_tot e h) n
theorem ltT_nil {a : Tx} : ltT a [] = false := decide_eq_false (by simp)
/-! ### sorted -/
section
variable {α : Type}
def insB (lt : α → α → Bool) (y : α) : List α → List α
  | [] => [y]
  | x :: l => if lt y x then y :: x :: l else x :: insB lt y l
def sortB (lt : α → α → Bool) (xs : List α) : List α := xs.foldl (fun l y => insB lt y l) []
theorem insB_perm (lt : α → α → Bool) (y : α) : ∀ l : List α, (insB lt y l).Perm (y :: l)
  | [] => List.Perm.refl _
  | x :: l => by
    unfold insB
    split
    · exact List.Perm.refl _
    · exact ((insB_perm lt y l).cons x).trans (List.Perm.swap y x l)
theorem foldB_perm (lt : α → α → Bool) : ∀ (ds l : List α), (ds.foldl (fun l y => insB lt y l) l).Perm (l ++ ds)
  | [], l => by simp
  | d :: ds, l => by
    rw [List.foldl_cons]
    refine (foldB_perm lt ds _).trans ?_
    have := (insB_perm lt d l).append_right ds
    refine this.trans ?_
    rw [List.cons_append]
    exact List.perm_middle.symm
theorem sortB_perm (lt : α → α → Bool) (xs : List α) : (sortB lt xs).Perm xs := foldB_perm lt xs []
theorem mem_sortB {lt : α → α → Bool} {xs : List α} {x : α} : x ∈ sortB lt xs ↔ x ∈ xs := (sortB_perm lt xs).mem_iff
theorem len_sortB {lt : α → α → Bool} {xs : List α} : (sortB lt xs).length = xs.length := (sortB_perm lt xs).length_eq
theorem insK_map {e : α → Dat} {lt : α → α → Bool} {y : α} : ∀ {l : List α}, (∀ x ∈ l, ltK (e y) (e x) = lt y x) → insK (e y) (l.map e) = (insB lt y l).map e
  | [], _ => rfl
  | x :: l, h => by
    rw [List.map_cons]
    unfold insK insB
    rw [h x List.mem_cons_self]
    split
    · rfl
    · rw [List.map_cons, insK_map fun z hz => h z (List.mem_cons_of_mem _ hz)]
theorem foldK_map {e : α → Dat} {lt : α → α → Bool} : ∀ {ds l : List α}, (∀ y ∈ ds, ∀ x ∈ l ++ ds, ltK (e y) (e x) = lt y x) → (ds.map e).foldl (fun l y => insK y l) (l.map e) = (ds.foldl (fun l y => insB lt y l) l).map e
  | [], _, _ => rfl
  | d :: ds, l, h => by
    rw [List.map_cons, List.foldl_cons, List.foldl_cons, insK_map (lt := lt) fun x hx => h d List.mem_cons_self x (List.mem_append_left _ hx)]
    refine foldK_map fun y hy x hx => h y (List.mem_cons_of_mem _ hy) x ?_
    rcases List.mem_append.mp hx with q | q
    · rcases List.mem_cons.mp ((insB_perm lt d l).mem_iff.mp q) with q | q
      · exact List.mem_append_right _ (by simp [q])
      · exact List.mem_append_left _ q
    · exact List.mem_append_right _ (List.mem_cons_of_mem _ q)
theorem sortK_map {e : α → Dat} {lt : α → α → Bool} {xs : List α} (h : ∀ y ∈ xs, ∀ x ∈ xs, ltK (e y) (e x) = lt y x) : sortK (xs.map e) = (sortB lt xs).map e :=
  foldK_map (l := []) (by simpa using h)
/-- by a key -/
def byK (k : α → Tx) (a b : α) : Bool := ltT (k a) (k b)
theorem insB_up {k : α → Tx} (y : α) : ∀ {l : List α}, l.Pairwise (fun a b => byK k b a = false) → (insB (byK k) y l).Pairwise fun a b => byK k b a = false
  | [], _ => List.pairwise_singleton _ _
  | x :: l, h => by
    obtain ⟨h1, h2⟩ := List.pairwise_cons.mp h
    unfold insB
    split
    · rename_i hlt
      refine List.pairwise_cons.mpr ⟨fun z hz => ?_, h⟩
      rcases List.mem_cons.mp hz with rfl | hz
      · exact ltT_asymm hlt
      · exact ltT_ntrans (ltT_asymm hlt) (h1 z hz)
    · rename_i hlt
      refine List.pairwise_cons.mpr ⟨fun z hz => ?_, insB_up y h2⟩
      rcases List.mem_cons.mp ((insB_perm _ y l).mem_iff.mp hz) with q | q
      · rw [q]
        simpa using hlt
      · exact h1 z q
theorem foldB_up {k : α → Tx} : ∀ (ds : List α) {l : List α}, l.Pairwise (fun a b => byK k b a = false) → (ds.foldl (fun l y => insB (byK k) y l) l).Pairwise fun a b => byK k b a = false
  | [], _, h => h
  | d :: ds, _, h => foldB_up ds (insB_up d h)
theorem sortB_up {k : α → Tx} (xs : List α) : (sortB (byK k) xs).Pairwise fun a b => byK k b a = false := foldB_up xs List.Pairwise.nil
theorem insB_mapK {k : α → Tx} (y : α) : ∀ l : List α, (insB (byK k) y l).map k = insB ltT (k y) (l.map k)
  | [] => rfl
  | x :: l => by
    rw [List.map_cons]
    unfold insB
    show (if ltT (k y) (k x) = true then _ else _ : List α).map k = _
    split
    · rfl
    · rw [List.map_cons, insB_mapK y l]
theorem foldB_mapK {k : α → Tx} : ∀ ds l : List α, (ds.foldl (fun l y => insB (byK k) y l) l).map k = (ds.map k).foldl (fun l y => insB ltT y l) (l.map k)
  | [], _ => rfl
  | d :: ds, l => by rw [List.foldl_cons, foldB_mapK ds, List.map_cons, List.foldl_cons, insB_mapK]
theorem sortB_mapK {k : α → Tx} (xs : List α) : (sortB (byK k) xs).map k = sortB ltT (xs.map k) := foldB_mapK xs []
end
def sortT (xs : List Tx) : List Tx := sortB ltT xs
theorem sortT_perm (xs : List Tx) : (sortT xs).Perm xs := sortB_perm _ xs
theorem mem_sortT {xs : List Tx} {x : Tx} : x ∈ sortT xs ↔ x ∈ xs := mem_sortB
theorem len_sortT {xs : List Tx} : (sortT xs).length = xs.length := len_sortB
theorem nodup_sortT {xs : List Tx} (h : xs.Nodup) : (sortT xs).Nodup := (sortT_perm xs).nodup_iff.mpr h
theorem sortT_up (xs : List Tx) : (sortT xs).Pairwise fun a b => ltT b a = false := by
  have := sortB_up (k := id) xs
  exact this
theorem up_eq : ∀ {l m : List Tx}, l.Pairwise (fun a b => ltT b a = false) → m.Pairwise (fun a b => ltT b a = false) → l.Perm m → l = m
  | [], m, _, _, p => (List.Perm.eq_nil p.symm).symm
  | x :: l, [], _, _, p => absurd p.length_eq (by simp)
  | x :: l, y :: m, hl, hm, p => by
    obtain ⟨h1, h2⟩ := List.pairwise_cons.mp hl
    obtain ⟨h3, h4⟩ := List.pairwise_cons.mp hm
    have hy : y ∈ x :: l := p.mem_iff.mpr List.mem_cons_self
    have hx : x ∈ y :: m := p.mem_iff.mp List.mem_cons_self
    have e : x = y := by
      rcases List.mem_cons.mp hy with q | hy'
      · exact q.symm
      · rcases List.mem_cons.mp hx with q | hx'
        · exact q
        · exact ltT_tot (h3 x hx') (h1 y hy')
    subst e
    rw [up_eq h2 h4 p.cons_inv]
theorem sortT_congr {xs ys : List Tx} (p : xs.Perm ys) : sortT xs = sortT ys := up_eq (sortT_up _) (sortT_up _) (((sortT_perm xs).trans p).trans (sortT_perm ys).symm)
theorem sortT_id {xs : List Tx} (h : xs.Pairwise fun a b => ltT b a = false) : sortT xs = xs := up_eq (sortT_up _) h (sortT_perm xs)
theorem sortT_idem (xs : List Tx) : sortT (sortT xs) = sortT xs := sortT_id (sortT_up xs)
/-- lists without doubles of the same members -/
theorem perm_of {xs ys : List Tx} (hx : xs.Nodup) (hy : ys.Nodup) (h : ∀ x, x ∈ xs ↔ x ∈ ys) : xs.Perm ys := (List.perm_ext_iff_of_nodup hx hy).mpr h
theorem sortK_str (xs : List Tx) : sortK (xs.map .str) = (sortT xs).map .str := sortK_map fun y _ x _ => ltK_str y x
/-! ### what may be sorted -/
theorem toPDs_strs : ∀ xs : List Tx, toPDs (xs.map .str) = some (xs.map fun x => PyData.str (mkS x))
  | [] => rfl
  | x :: xs => by
    rw [List.map_cons]
    simp only [toPDs, toPD, toPDs_strs xs, List.map_cons]
theorem depth_strs : ∀ xs : List Tx, PyData.depthAll (xs.map fun x => PyData.str (mkS x)) = 0
  | [] => rfl
  | x :: xs => by
    rw [List.map_cons]
    simp only [PyData.depthAll, PyData.depth, depth_strs xs]
    rfl
theorem all_strs : ∀ xs : List Tx, (xs.map Dat.str).all isStrD = true
  | [] => rfl
  | x :: xs => by
    rw [List.map_cons, List.all_cons, all_strs xs]
    rfl
theorem sortOk_strs {xs : List Tx} (h : xs.length ≤ 1000000) : sortOk (xs.map .str) = true := by
  unfold sortOk
  simp only [toPDs_strs, all_strs, depth_strs, Bool.true_or, Bool.true_and, List.length_map]
  simp [h]
theorem e_sorted_s {xs : List Tx} {rt : Bool} {s : List Nat} {m : Option (List Nat)} (h : xs.length ≤ 1000000) : gSorted ⟨.lst (xs.map .str), rt, s, m⟩ = .ok ⟨.lst ((sortT xs).map .str), true, s, some []⟩ := by
  show (if sortOk (xs.map .str) = true then Res.ok (rNewL (sortK (xs.map .str)) s) else .no) = _
  rw [sortOk_strs h, if_pos rfl, sortK_str, e_newL (flat_strs _)]
theorem e_list_d {ks : List Tx} {ds : List Dat} {rt : Bool} {s : List Nat} {m : Option (List Nat)} : gList ⟨.dic ks ds, rt, s, m⟩ = .ok ⟨.lst (ks.map .str), true, [], some []⟩ := by
  show Res.ok (rNewL (ks.map Dat.str) []) = _
  rw [e_newL (flat_strs _)]
/-- tuples whose first parts are unlike texts -/
theorem ltK_tup {a b : Tx} {r q : List Dat} {p1 p2 : List PyData} (h1 : toPDs r = some p1) (h2 : toPDs q = some p2) (n : a ≠ b) : ltK (.tup (.str a :: r)) (.tup (.str b :: q)) = ltT a b := by
  have e1 : keyD (.tup (.str a :: r)) = PySem.W.keyToksAll (PyData.str (mkS a) :: p1) := by
    unfold keyD
    simp only [toPD, toPDs, h1, Option.map_some]
    rfl
  have e2 : keyD (.tup (.str b :: q)) = PySem.W.keyToksAll (PyData.str (mkS b) :: p2) := by
    unfold keyD
    simp only [toPD, toPDs, h2, Option.map_some]
    rfl
  have hn : PyData.eqv (.str (mkS a)) (.str (mkS b)) = false := by
    show (mkS a == mkS b) = false
    rw [beq_eq_false_iff_ne]
    exact fun z => n (mkS_inj z)
  unfold ltK
  rw [e1, e2, PySem.W.dataLt_all_no rfl hn]
  exact (ltK_str a b)
theorem ltK_irrefl (d : Dat) : ltK d d = false := PyProof.Rows.lex_irrefl (O := PyProof.Rows.itemOrd) _
section
variable {α : Type} {e : α → Dat} {k : α → Tx} {r : α → List Dat}
theorem inj_of_nodup {k : α → Tx} : ∀ {xs : List α}, (xs.map k).Nodup → ∀ x ∈ xs, ∀ y ∈ xs, k x = k y → x = y := fun h => map_inj_nodup h
theorem sortK_tup {xs : List α} (he : ∀ x ∈ xs, e x = .tup (.str (k x) :: r x)) (hp : ∀ x ∈ xs, ∃ p, toPDs (r x) = some p) (n : (xs.map k).Nodup) : sortK (xs.map e) = (sortB (byK k) xs).map e := by
  refine sortK_map fun y hy x hx => ?_
  rw [he y hy, he x hx]
  obtain ⟨p1, h1⟩ := hp y hy
  obtain ⟨p2, h2⟩ := hp x hx
  by_cases h : k y = k x
  · have := inj_of_nodup n y hy x hx h
    subst this
    rw [ltK_irrefl]
    exact (ltT_irrefl _).symm
  · exact ltK_tup h1 h2 h
theorem keyD_tup_ne {a b : Tx} {x y : List Dat} {p1 p2 : List PyData} (h1 : toPDs x = some p1) (h2 : toPDs y = some p2) (n : a ≠ b) : keyD (.tup (.str a :: x)) ≠ keyD (.tup (.str b :: y)) := by
  intro z
  have e1 := ltK_tup h1 h2 n
  have e2 := ltK_tup h2 h1 n.symm
  unfold ltK at e1 e2
  rw [z, PyProof.Rows.lex_irrefl (O := PyProof.Rows.itemOrd)] at e1
  rw [z, PyProof.Rows.lex_irrefl (O := PyProof.Rows.itemOrd)] at e2
  exact n (ltT_tot e1.symm e2.symm)
theorem toPDs_map {P : α → PyData} : ∀ {xs : List α}, (∀ x ∈ xs, toPD (e x) = some (P x)) → toPDs (xs.map e) = some (xs.map P)
  | [], _ => rfl
  | x :: xs, h => by
    rw [List.map_cons]
    simp only [toPDs, h x List.mem_cons_self, toPDs_map fun y hy => h y (List.mem_cons_of_mem _ hy), List.map_cons]
theorem depthAll_le {P : α → PyData} {n : Nat} : ∀ {xs : List α}, (∀ x ∈ xs, (P x).depth ≤ n) → PyData.depthAll (xs.map P) ≤ n
  | [], _ => Nat.zero_le _
  | x :: xs, h => by
    rw [List.map_cons]
    simp only [PyData.depthAll]
    exact Nat.max_le.mpr ⟨h x List.mem_cons_self, depthAll_le fun y hy => h y (List.mem_cons_of_mem _ hy)⟩
/-- tuples of one kind, their first parts unlike texts -/
theorem sortOk_tup {P : α → List PyData} {xs : List α} (hl : xs.length ≤ 1000000) (he : ∀ x ∈ xs, e x = .tup (.str (k x) :: r x)) (hp : ∀ x ∈ xs, toPDs (r x) = some (P x)) (n : (xs.map k).Nodup)
    (ha : ∀ x ∈ xs, ∀ y ∈ xs, PySem.W.alikeAll (P x) (P y) = true) (hd : ∀ x ∈ xs, PyData.depthAll (P x) ≤ 10) : sortOk (xs.map e) = true := by
  have h1 : toPDs (xs.map e) = some (xs.map fun x => PyData.tuple (.str (mkS (k x)) :: P x)) := toPDs_map fun x hx => by
    rw [he x hx]
    simp only [toPD, toPDs, hp x hx, Option.map_some]
  have h2 : (xs.map e).all isTupD = true := by
    rw [List.all_eq_true]
    intro d hd
    obtain ⟨x, hx, rfl⟩ := List.mem_map.mp hd
    rw [he x hx]
    rfl
  have h3 : ((xs.map e).map keyD).Nodup := by
    rw [List.map_map]
    have : ∀ {ys : List α}, (∀ y ∈ ys, y ∈ xs) → (ys.map k).Nodup → (ys.map (keyD ∘ e)).Nodup := by
      intro ys
      induction ys with
      | nil => exact fun _ _ => List.Pairwise.nil
      | cons y ys ih =>
        intro hs hn
        rw [List.map_cons] at hn ⊢
        obtain ⟨q1, q2⟩ := List.nodup_cons.mp hn
        refine List.nodup_cons.mpr ⟨fun z => ?_, ih (fun z hz => hs z (List.mem_cons_of_mem _ hz)) q2⟩
        obtain ⟨w, hw, ew⟩ := List.mem_map.mp z
        have hy := hs y List.mem_cons_self
        have hw' := hs w (List.mem_cons_of_mem _ hw)
        have ne : k w ≠ k y := fun z => q1 (by rw [← z]; exact List.mem_map_of_mem hw)
        simp only [Function.comp] at ew
        rw [he w hw', he y hy] at ew
        exact keyD_tup_ne (hp w hw') (hp y hy) ne ew
    exact this (fun _ z => z) n
  have h4 : ((xs.map fun x => PyData.tuple (.str (mkS (k x)) :: P x)).all fun p => (xs.map fun x => PyData.tuple (.str (mkS (k x)) :: P x)).all fun q => PySem.W.alike p q) = true := by
    rw [List.all_eq_true]
    intro p hp
    rw [List.all_eq_true]
    intro q hq
    obtain ⟨x, hx, rfl⟩ := List.mem_map.mp hp
    obtain ⟨y, hy, rfl⟩ := List.mem_map.mp hq
    simp only [PySem.W.alike, PySem.W.alikeAll, ha x hx y hy, Bool.and_self]
  have h5 : PyData.depthAll (xs.map fun x => PyData.tuple (.str (mkS (k x)) :: P x)) ≤ 20 := by
    refine Nat.le_trans (depthAll_le (n := 11) fun x hx => ?_) (by decide)
    have := hd x hx
    simp only [PyData.depth, PyData.depthAll]
    omega
  unfold sortOk
  simp only [h1, h2, h4, decide_eq_true h3, Bool.true_and, Bool.and_true, Bool.or_true, List.length_map]
  simp [h5, hl]
theorem e_sorted_t {P : α → List PyData} {xs : List α} {rt : Bool} {s : List Nat} {m : Option (List Nat)} (hl : xs.length ≤ 1000000) (he : ∀ x ∈ xs, e x = .tup (.str (k x) :: r x)) (hp : ∀ x ∈ xs, toPDs (r x) = some (P x)) (n : (xs.map k).Nodup)
    (ha : ∀ x ∈ xs, ∀ y ∈ xs, PySem.W.alikeAll (P x) (P y) = true) (hd : ∀ x ∈ xs, PyData.depthAll (P x) ≤ 10) : gSorted ⟨.lst (xs.map e), rt, s, m⟩ = .ok (rNewL ((sortB (byK k) xs).map e) s) := by
  show (if sortOk (xs.map e) = true then Res.ok (rNewL (sortK (xs.map e)) s) else .no) = _
  rw [sortOk_tup hl he hp n ha hd, if_pos rfl, sortK_tup he (fun x hx => ⟨_, hp x hx⟩) n]
end
/-! ### texts, each once -/
theorem nub_go : ∀ (ns l : List Tx), l.Nodup → (ns.foldl (fun l k => if k ∈ l then l else l ++ [k]) l).Nodup ∧ ∀ x, x ∈ ns.foldl (fun l k => if k ∈ l then l else l ++ [k]) l ↔ x ∈ l ∨ x ∈ ns
  | [], l, h => ⟨h, fun x => by simp⟩
  | n :: ns, l, h => by
    rw [List.foldl_cons]
    by_cases hn : n ∈ l
    · rw [if_pos hn]
      obtain ⟨h1, h2⟩ := nub_go ns l h
      refine ⟨h1, fun x => ?_⟩
      rw [h2 x, List.mem_cons]
      constructor
      · rintro (q | q)
        · exact .inl q
        · exact .inr (.inr q)
      · rintro (q | q | q)
        · exact .inl q
        · exact .inl (q ▸ hn)
        · exact .inr q
    · rw [if_neg hn]
      obtain ⟨h1, h2⟩ := nub_go ns (l ++ [n]) (List.nodup_append.mpr ⟨h, by simp, fun a ha b hb z => hn (by
        rw [List.mem_singleton] at hb
        rw [← hb, ← z]
        exact ha)⟩)
      refine ⟨h1, fun x => ?_⟩
      rw [h2 x, List.mem_append, List.mem_singleton, List.mem_cons, or_assoc]
theorem nubT_nodup (ns : List Tx) : (nubT ns).Nodup := (nub_go ns [] List.Pairwise.nil).1
theorem mem_nubT {ns : List Tx} {x : Tx} : x ∈ nubT ns ↔ x ∈ ns := by
  have := (nub_go ns [] List.Pairwise.nil).2 x
  unfold nubT
  simpa using this
theorem nubT_id {ns : List Tx} (h : ns.Nodup) : nubT ns = ns := by
  have : ∀ (ns l : List Tx), (l ++ ns).Nodup → ns.foldl (fun l k => if k ∈ l then l else l ++ [k]) l = l ++ ns := by
    intro ns
    induction ns with
    | nil => intro l _; simp
    | cons n ns ih =>
      intro l h
      rw [List.foldl_cons]
      have hn : n ∉ l := fun z => (List.nodup_append.mp h).2.2 n z n List.mem_cons_self rfl
      rw [if_neg hn, ih _ (by simpa using h)]
      simp
  exact this ns [] h
theorem nubT_len_iff {ns : List Tx} : (nubT ns).length = ns.length ↔ ns.Nodup := by
  constructor
  · intro h
    have hs : ∀ (ns l : List Tx), l.Nodup → (ns.foldl (fun l k => if k ∈ l then l else l ++ [k]) l).length = l.length + ns.length → (l ++ ns).Nodup := by
      intro ns
      induction ns with
      | nil => intro l hl _; simpa using hl
      | cons n ns ih =>
        intro l hl h
        rw [List.foldl_cons] at h
        have hle : ∀ (ns l : List Tx), (ns.foldl (fun l k => if k ∈ l then l else l ++ [k]) l).length ≤ l.length + ns.length := by
          intro ns
          induction ns with
          | nil => intro l; simp
          | cons n ns ih =>
            intro l
            rw [List.foldl_cons]
            have := ih (if n ∈ l then l else l ++ [n])
            have h2 : (if n ∈ l then l else l ++ [n]).length ≤ l.length + 1 := by split <;> simp
            simp only [List.length_cons]
            omega
        by_cases hn : n ∈ l
        · rw [if_pos hn] at h
          have := hle ns l
          simp only [List.length_cons] at h
          omega
        · rw [if_neg hn] at h
          have := ih (l ++ [n]) (List.nodup_append.mpr ⟨hl, by simp, fun a ha b hb z => hn (by
            rw [List.mem_singleton] at hb
            rw [← hb, ← z]
            exact ha)⟩) (by
              rw [h]
              simp only [List.length_append, List.length_cons, List.length_nil]
              omega)
          simpa using this
    unfold nubT at h
    have := hs ns [] List.Pairwise.nil (by simpa using h)
    simpa using this
  · intro h
    rw [nubT_id h]
theorem e_sortSet_s {xs : List Tx} {rt : Bool} {s : List Nat} {m : Option (List Nat)} (h : xs.length ≤ 4000) : gSortSet ⟨.lst (xs.map .str), rt, s, m⟩ = .ok ⟨.lst ((sortT (nubT xs)).map .str), true, [], some []⟩ := by
  show (match (seqOf (.lst (xs.map .str))).bind strsOf with | some ns => if ns.length ≤ 4000 then Res.ok (rNewL (sortK ((nubT ns).map .str)) []) else .no | none => .no) = _
  simp only [seqOf, Option.bind, strs_map]
  rw [if_pos h, sortK_str, e_newL (flat_strs _)]
theorem e_lenSet_s {xs : List Tx} {rt : Bool} {s : List Nat} {m : Option (List Nat)} (h : xs.length ≤ 4000) : gLenSet ⟨.lst (xs.map .str), rt, s, m⟩ = .ok ⟨.int (nubT xs).length, false, [], some []⟩ := by
  show (match (seqOf (.lst (xs.map .str))).bind strsOf with | some ns => if ns.length ≤ 4000 then Res.ok (rsF (.int (nubT ns).length)) else .no | none => .no) = _
  simp only [seqOf, Option.bind, strs_map]
  rw [if_pos h]
  rfl
/-! ### min of texts -/
def minT (x : Tx) (xs : List Tx) : Tx := xs.foldl (fun a y => if ltT y a then y else a) x
theorem minK_str : ∀ (xs : List Tx) (x : Tx), minK (.str x) (xs.map .str) = .str (minT x xs)
  | [], _ => rfl
  | y :: xs, x => by
    have e : (if ltK (.str y) (.str x) = true then Dat.str y else .str x) = .str (if ltT y x = true then y else x) := by
      rw [ltK_str]
      show (if ltT y x = true then _ else _) = _
      split <;> rfl
    show minK (if ltK (.str y) (.str x) = true then Dat.str y else .str x) (xs.map .str) = _
    rw [e, minK_str xs]
    rfl
theorem minT_spec : ∀ (xs : List Tx) (x : Tx), minT x xs ∈ x :: xs ∧ ∀ y ∈ x :: xs, ltT y (minT x xs) = false
  | [], x => ⟨List.mem_cons_self, fun y hy => by
    rw [List.mem_singleton] at hy
    rw [hy]
    exact ltT_irrefl _⟩
  | y :: xs, x => by
    have e : minT x (y :: xs) = minT (if ltT y x = true then y else x) xs := rfl
    rw [e]
    obtain ⟨h1, h2⟩ := minT_spec xs (if ltT y x = true then y else x)
    cases hlt : ltT y x with
    | true =>
      rw [hlt, if_pos rfl] at h1 h2
      rw [if_pos rfl]
      refine ⟨List.mem_cons_of_mem _ h1, fun z hz => ?_⟩
      rcases List.mem_cons.mp hz with q | q
      · rw [q]
        exact ltT_ntrans (h2 y List.mem_cons_self) (ltT_asymm hlt)
      · exact h2 z q
    | false =>
      rw [hlt, if_neg Bool.false_ne_true] at h1 h2
      rw [if_neg Bool.false_ne_true]
      refine ⟨?_, fun z hz => ?_⟩
      · rcases List.mem_cons.mp h1 with q | q
        · rw [q]
          exact List.mem_cons_self
        · exact List.mem_cons_of_mem _ (List.mem_cons_of_mem _ q)
      · rcases List.mem_cons.mp hz with q | q
        · exact h2 z (by rw [q]; exact List.mem_cons_self)
        · rcases List.mem_cons.mp q with q | q
          · rw [q]
            exact ltT_ntrans (h2 x List.mem_cons_self) hlt
          · exact h2 z (List.mem_cons_of_mem _ q)
theorem cmpOk_strs {xs : List Tx} (h : xs.length ≤ 1000000) : cmpOk (xs.map .str) = true := by
  unfold cmpOk
  simp only [toPDs_strs, all_strs, depth_strs, Bool.true_or, Bool.true_and, List.length_map, flat_strs]
  simp [h]
theorem e_min_s {x : Tx} {xs : List Tx} {rt : Bool} {s : List Nat} {m : Option (List Nat)} (h : xs.length < 1000000) : gMin ⟨.lst ((x :: xs).map .str), rt, s, m⟩ = .ok ⟨.str (minT x xs), false, [], some []⟩ := by
  show (if cmpOk ((x :: xs).map .str) = true then Res.ok (rsF (minK (.str x) (xs.map .str))) else .no) = _
  rw [cmpOk_strs (by simp only [List.length_cons]; omega), if_pos rfl, minK_str]
  rfl
theorem min_uniq {xs : List Tx} {a b : Tx} (ha : a ∈ xs) (hb : b ∈ xs) (h1 : ∀ y ∈ xs, ltT y a = false) (h2 : ∀ y ∈ xs, ltT y b = false) : a = b := ltT_tot (h2 a ha) (h1 b hb)
theorem sort_head {xs : List Tx} {a : Tx} (ha : a ∈ xs) (h : ∀ y ∈ xs, ltT y a = false) : ∃ r, sortT xs = a :: r := by
  cases e : sortT xs with
  | nil =>
    have := mem_sortT.mpr ha
    rw [e] at this
    cases this
  | cons b r =>
    have hb : b ∈ xs := mem_sortT.mp (by rw [e]; exact List.mem_cons_self)
    have hu := sortT_up xs
    rw [e] at hu
    have h2 : ∀ y ∈ xs, ltT y b = false := fun y hy => by
      have := mem_sortT.mpr hy
      rw [e] at this
      rcases List.mem_cons.mp this with q | q
      · rw [q]
        exact ltT_irrefl _
      · exact (List.pairwise_cons.mp hu).1 y q
    rw [min_uniq ha hb h h2]
    exact ⟨r, rfl⟩
/-! ### max of numbers -/
def maxI (x : Int) (xs : List Int) : Int := xs.foldl (fun a y => if a < y then y else a) x
theorem ltK_int (a b : Int) : ltK (.int a) (.int b) = decide (a < b) := by
  have e1 : keyD (.int a) = [.inl a] := rfl
  have e2 : keyD (.int b) = [.inl b] := rfl
  unfold ltK
  rw [e1, e2]
  rw [PyProof.Rows.lex_cons]
  show (PyProof.Rows.itemLt (.inl a) (.inl b) || (!PyProof.Rows.itemLt (.inl b) (.inl a) && false)) = _
  rw [Bool.and_false, Bool.or_false]
  rfl
theorem maxK_int : ∀ (xs : List Int) (x : Int), maxK (.int x) (xs.map .int) = .int (maxI x xs)
  | [], _ => rfl
  | y :: xs, x => by
    have e : (if ltK (.int x) (.int y) = true then Dat.int y else .int x) = .int (if x < y then y else x) := by
      rw [ltK_int]
      by_cases h : x < y
      · rw [if_pos h, decide_eq_true h, if_pos rfl]
      · rw [if_neg h, decide_eq_false h, if_neg (by decide)]
    show maxK (if ltK (.int x) (.int y) = true then Dat.int y else .int x) (xs.map .int) = _
    rw [e, maxK_int xs]
    rfl
theorem maxI_spec : ∀ (xs : List Int) (x : Int), maxI x xs ∈ x :: xs ∧ ∀ y ∈ x :: xs, y ≤ maxI x xs
  | [], x => ⟨List.mem_cons_self, fun y hy => by
    rw [List.mem_singleton] at hy
    rw [hy]
    exact Int.le_refl _⟩
  | y :: xs, x => by
    have e : maxI x (y :: xs) = maxI (if x < y then y else x) xs := rfl
    rw [e]
    obtain ⟨h1, h2⟩ := maxI_spec xs (if x < y then y else x)
    have hx : x ≤ maxI (if x < y then y else x) xs ∧ y ≤ maxI (if x < y then y else x) xs := by
      have := h2 _ List.mem_cons_self
      by_cases h : x < y
      · rw [if_pos h] at this ⊢
        exact ⟨by omega, this⟩
      · rw [if_neg h] at this ⊢
        exact ⟨this, by omega⟩
    refine ⟨?_, fun z hz => ?_⟩
    · rcases List.mem_cons.mp h1 with q | q
      · rw [q]
        by_cases h : x < y
        · rw [if_pos h]
          simp
        · rw [if_neg h]
          simp
      · exact List.mem_cons_of_mem _ (List.mem_cons_of_mem _ q)
    · rcases List.mem_cons.mp hz with q | q
      · rw [q]
        exact hx.1
      · rcases List.mem_cons.mp q with q | q
        · rw [q]
          exact hx.2
        · exact h2 z (List.mem_cons_of_mem _ q)
theorem toPDs_ints : ∀ xs : List Int, toPDs (xs.map .int) = some (xs.map PyData.int)
  | [] => rfl
  | x :: xs => by
    rw [List.map_cons]
    simp only [toPDs, toPD, toPDs_ints xs, List.map_cons]
theorem depth_ints : ∀ xs : List Int, PyData.depthAll (xs.map PyData.int) = 0
  | [] => rfl
  | x :: xs => by
    rw [List.map_cons]
    simp only [PyData.depthAll, PyData.depth, depth_ints xs]
    rfl
theorem all_ints : ∀ xs : List Int, (xs.map Dat.int).all isIntD = true
  | [] => rfl
  | x :: xs => by
    rw [List.map_cons, List.all_cons, all_ints xs]
    rfl
theorem e_max_i {x : Int} {xs : List Int} {rt : Bool} {s : List Nat} {m : Option (List Nat)} (h : xs.length < 1000000) : gMax ⟨.lst ((x :: xs).map .int), rt, s, m⟩ = .ok ⟨.int (maxI x xs), false, [], some []⟩ := by
  have hc : cmpOk ((x :: xs).map .int) = true := by
    unfold cmpOk
    simp only [toPDs_ints, all_ints, depth_ints, Bool.true_or, Bool.or_true, Bool.true_and, List.length_map, flat_ints]
    simp
    omega
  show (if cmpOk ((x :: xs).map .int) = true then Res.ok (rsF (maxK (.int x) (xs.map .int))) else .no) = _
  rw [hc, if_pos rfl, maxK_int]
  rfl
end PV

/-! more reckoning rules: chains, kinds, dicts, writes, loops and comprehensions by functions -/
namespace PV
open PySem PySem.Spec L2
section
variable {rt rt' : Bool} {s s' : List Nat} {m m' : Option (List Nat)}
/-! chains -/
def fChain1 (g g' : Rs → Rs → Res Rs) (fb fc : Sto → Res Rs) (E : Sto) (ra : Rs) : Res Rs := (fb E).bind fun rb => (g ra rb).bind fun r => match r.d with
  | .bl true => (fc E).bind fun rc => g' rb rc
  | .bl false => .ok (rsF (.bl false))
  | _ => .no
def fChain2 (g g' : Rs → Rs → Res Rs) (fc : Sto → Res Rs) (E : Sto) (ra rb : Rs) : Res Rs := (g ra rb).bind fun r => match r.d with
  | .bl true => (fc E).bind fun rc => g' rb rc
  | .bl false => .ok (rsF (.bl false))
  | _ => .no
def fChain3 (g' : Rs → Rs → Res Rs) (fc : Sto → Res Rs) (E : Sto) (rb r : Rs) : Res Rs := match r.d with
  | .bl true => (fc E).bind fun rc => g' rb rc
  | .bl false => .ok (rsF (.bl false))
  | _ => .no
theorem e_chain {g g' : Rs → Rs → Res Rs} {fa fb fc : Sto → Res Rs} {E : Sto} : fChain g g' fa fb fc E = (fa E).bind (fChain1 g g' fb fc E) := (rfl)
theorem e_chain1 {g g' : Rs → Rs → Res Rs} {fb fc : Sto → Res Rs} {E : Sto} {ra : Rs} : fChain1 g g' fb fc E ra = (fb E).bind (fChain2 g g' fc E ra) := (rfl)
theorem e_chain2 {g g' : Rs → Rs → Res Rs} {fc : Sto → Res Rs} {E : Sto} {ra rb : Rs} : fChain2 g g' fc E ra rb = (g ra rb).bind (fChain3 g' fc E rb) := (rfl)
theorem e_chain_t {g' : Rs → Rs → Res Rs} {fc : Sto → Res Rs} {E : Sto} {rb : Rs} : fChain3 g' fc E rb ⟨.bl true, rt, s, m⟩ = (fc E).bind (g' rb) := (rfl)
theorem e_chain_f {g' : Rs → Rs → Res Rs} {fc : Sto → Res Rs} {E : Sto} {rb : Rs} : fChain3 g' fc E rb ⟨.bl false, rt, s, m⟩ = .ok ⟨.bl false, false, [], some []⟩ := (rfl)
/-! kinds -/
theorem isT_of {t u : String} (h : u ∈ tyN) (hb : ¬ (t = "bool" ∨ u = "bool")) : isT t u = some (decide (u = t)) := by
  unfold isT isB
  rw [if_pos h]
  by_cases e : u = t
  · rw [if_pos e, decide_eq_true e]
  · rw [if_neg e, if_neg (fun z => hb (.inr z.1)), decide_eq_false e]
theorem e_isi_l {own : Tx → Option Bool} {x : List Dat} : gIsi (isT "list") own ⟨.lst x, rt, s, m⟩ = .ok ⟨.bl true, false, [], some []⟩ := by
  show (match isT "list" "list" with | some b => Res.ok (rsF (.bl b)) | none => .no) = _
  rw [isT_of (by decide) (by decide)]
  rfl
theorem e_isi_t {own : Tx → Option Bool} {x : List Dat} : gIsi (isT "tuple") own ⟨.tup x, rt, s, m⟩ = .ok ⟨.bl true, false, [], some []⟩ := by
  show (match isT "tuple" "tuple" with | some b => Res.ok (rsF (.bl b)) | none => .no) = _
  rw [isT_of (by decide) (by decide)]
  rfl
theorem e_isi_ss {own : Tx → Option Bool} {x : Tx} : gIsi (isT "str") own ⟨.str x, rt, s, m⟩ = .ok ⟨.bl true, false, [], some []⟩ := by
  rw [e_isi_s]
  rfl
/-! tuples in hand -/
theorem e_rv_tupF {i : Nat} {xs : List Dat} {k : Kd} (h : flatL xs = true) : rVar i (.tup xs) k = ⟨.tup xs, false, [], some []⟩ := by
  unfold rVar
  rw [if_pos (show flat (.tup xs) = true from h)]
  rfl
theorem e_rv_tupS {i : Nat} {xs : List Dat} (h : flatL xs = false) : rVar i (.tup xs) .shr = ⟨.tup xs, false, [i], none⟩ := by
  unfold rVar
  rw [if_neg (show ¬ flat (.tup xs) = true by show ¬ flatL xs = true; rw [h]; decide)]
  rfl
theorem e_rv_tupD {i : Nat} {xs : List Dat} (h : flatL xs = false) : rVar i (.tup xs) .deep = ⟨.tup xs, false, [i], some [i]⟩ := by
  unfold rVar
  rw [if_neg (show ¬ flat (.tup xs) = true by show ¬ flatL xs = true; rw [h]; decide)]
  rfl
theorem e_pick_tF {r : Rs} {xs : List Dat} (h : flatL xs = true) : pick r (.tup xs) = ⟨.tup xs, false, [], some []⟩ := by
  unfold pick
  rw [if_pos (show flat (.tup xs) = true from h)]
  rfl
theorem e_pick_tS {r : Rs} {xs : List Dat} (h : flatL xs = false) : pick r (.tup xs) = ⟨.tup xs, false, r.src, none⟩ := by
  unfold pick
  rw [if_neg (show ¬ flat (.tup xs) = true by show ¬ flatL xs = true; rw [h]; decide)]
theorem e_call_tF {rs : List Rs} {x : List Dat} {b : Bool} (h : flatL x = true) : fCall2 rs (.tup x, b) = .ok ⟨.tup x, false, [], some []⟩ := by
  show Res.ok (if flat (.tup x) = true then _ else _) = _
  rw [if_pos (show flat (.tup x) = true from h)]
  rfl
theorem e_call_lS {rs : List Rs} {x : List Dat} : fCall2 rs (.lst x, false) = .ok ⟨.lst x, false, allSrc rs, none⟩ := (rfl)
theorem e_flat0 : flatL [] = true := (rfl)
theorem e_flat_s {x : Tx} {xs : List Dat} : flatL (.str x :: xs) = flatL xs := by
  show (flat (.str x) && flatL xs) = _
  rw [show flat (.str x) = true from rfl, Bool.true_and]
theorem e_flat_i {x : Int} {xs : List Dat} : flatL (.int x :: xs) = flatL xs := by
  show (flat (.int x) && flatL xs) = _
  rw [show flat (.int x) = true from rfl, Bool.true_and]
theorem e_flat_b {x : Bool} {xs : List Dat} : flatL (.bl x :: xs) = flatL xs := by
  show (flat (.bl x) && flatL xs) = _
  rw [show flat (.bl x) = true from rfl, Bool.true_and]
theorem e_flat_n {xs : List Dat} : flatL (.non :: xs) = flatL xs := by
  show (flat .non && flatL xs) = _
  rw [show flat .non = true from rfl, Bool.true_and]
theorem e_flat_l {x xs : List Dat} : flatL (.lst x :: xs) = false := (rfl)
theorem e_newLs {xs : List Tx} {l : List Nat} : rNewL (xs.map .str) l = ⟨.lst (xs.map .str), true, l, some []⟩ := e_newL (flat_strs _)
theorem e_newLi {xs : List Int} {l : List Nat} : rNewL (xs.map .int) l = ⟨.lst (xs.map .int), true, l, some []⟩ := e_newL (flat_ints _)
/-! items by a place -/
theorem e_at0 {x : Dat} {xs : List Dat} : dAt (x :: xs) 0 = some x := by
  unfold dAt ixN
  rw [if_pos (by decide), if_pos (by simp only [List.length_cons]; omega)]
  rfl
theorem e_at1 {x y : Dat} {xs : List Dat} : dAt (x :: y :: xs) 1 = some y := by
  unfold dAt ixN
  rw [if_pos (by decide), if_pos (by simp only [List.length_cons]; omega)]
  rfl
theorem e_at2 {x y z : Dat} {xs : List Dat} : dAt (x :: y :: z :: xs) 2 = some z := by
  unfold dAt ixN
  rw [if_pos (by decide), if_pos (by simp only [List.length_cons]; omega)]
  rfl
theorem e_at3 {x y z w : Dat} {xs : List Dat} : dAt (x :: y :: z :: w :: xs) 3 = some w := by
  unfold dAt ixN
  rw [if_pos (by decide), if_pos (by simp only [List.length_cons]; omega)]
  rfl
theorem e_atL {xs : List Dat} (h : xs ≠ []) : dAt xs (-1) = xs.getLast? := by
  unfold dAt ixN
  have hl : 0 < xs.length := List.length_pos_iff.mpr h
  rw [if_neg (by decide), if_pos (by omega)]
  show xs[_]? = _
  rw [List.getLast?_eq_getElem?]
  congr 1
  omega
/-! dicts whose values are told by a function -/
def updF (g : Tx → Dat) (x : Tx) (v : Dat) : Tx → Dat := fun k => if k = x then v else g k
def addK (ks : List Tx) (x : Tx) : List Tx := if x ∈ ks then ks else ks ++ [x]
theorem dGet_map : ∀ {ks : List Tx} {g : Tx → Dat} {x : Tx}, dGet ks (ks.map g) x = if x ∈ ks then some (g x) else none
  | [], g, x => rfl
  | k :: ks, g, x => by
    rw [List.map_cons]
    show (if k = x then some (g k) else dGet ks (ks.map g) x) = _
    by_cases h : k = x
    · rw [if_pos h, h, if_pos List.mem_cons_self]
    · rw [if_neg h, dGet_map]
      by_cases h2 : x ∈ ks
      · rw [if_pos h2, if_pos (List.mem_cons_of_mem _ h2)]
      · rw [if_neg h2, if_neg (fun z => (List.mem_cons.mp z).elim (fun q => h q.symm) h2)]
theorem dRep_map : ∀ {ks : List Tx} {g : Tx → Dat} {x : Tx} {v : Dat}, dRep ks (ks.map g) x v = ks.map (updF g x v)
  | [], _, _, _ => rfl
  | k :: ks, g, x, v => by
    rw [List.map_cons, List.map_cons]
    show (if k = x then v else g k) :: dRep ks (ks.map g) x v = _
    rw [dRep_map]
    rfl
theorem updF_out {g : Tx → Dat} {x : Tx} {v : Dat} {ks : List Tx} (h : x ∉ ks) : ks.map (updF g x v) = ks.map g := by
  refine List.map_congr_left fun k hk => ?_
  unfold updF
  rw [if_neg (fun z => h (by rw [← z]; exact hk))]
theorem gPut_map {ks : List Tx} {g : Tx → Dat} {x : Tx} {v : Dat} (h : ks.length ≤ 1000000) (hv : flat v = true ∨ ks.Nodup) : gPut x (.dic ks (ks.map g)) v = some (.dic (addK ks x) ((addK ks x).map (updF g x v))) := by
  unfold gPut addK
  simp only
  rw [if_pos h]
  by_cases hx : x ∈ ks
  · rw [if_pos hx, if_pos hx, if_pos hv, dRep_map]
  · rw [if_neg hx, if_neg hx, List.map_append, updF_out hx]
    have : updF g x v x = v := if_pos rfl
    simp [this]
theorem nodup_addK {ks : List Tx} {x : Tx} (h : ks.Nodup) : (addK ks x).Nodup := by
  unfold addK
  split
  · exact h
  · rename_i hx
    exact List.nodup_append.mpr ⟨h, by simp, fun a ha b hb z => hx (by
      rw [List.mem_singleton] at hb
      rw [← hb, ← z]
      exact ha)⟩
theorem mem_addK {ks : List Tx} {x y : Tx} : y ∈ addK ks x ↔ y ∈ ks ∨ y = x := by
  unfold addK
  split
  · rename_i hx
    exact ⟨.inl, fun z => z.elim id fun q => q ▸ hx⟩
  · simp
theorem len_addK {ks : List Tx} {x : Tx} : (addK ks x).length ≤ ks.length + 1 := by
  unfold addK
  split
  · exact Nat.le_succ _
  · simp
theorem e_subs_map {ks : List Tx} {g : Tx → Dat} {x : Tx} (h : x ∈ ks) : gSubs ⟨.dic ks (ks.map g), rt, s, m⟩ ⟨.str x, rt', s', m'⟩ = .ok (pick ⟨.dic ks (ks.map g), rt, s, m⟩ (g x)) := by
  rw [e_subs_d, dGet_map, if_pos h]
  rfl
def sPut1' (i : Nat) (E : Sto) (r : Rs) (fk : Sto → Res Rs) : Res Fl := (fk E).bind (sPut1 i E r)
theorem e_put {i : Nat} {fk fv : Sto → Res Rs} {E : Sto} {ks : List Tx} {ds : List Dat} {k : Kd} (h : slot E i = some (.dic ks ds, k)) : sPut i fk fv E = (fv E).bind fun r => (fk E).bind fun kr => sPut1 i E r kr := by
  unfold sPut
  rw [h]
  rfl
/-- d[k] = v, v new or flat -/
theorem put_ok {i : Nat} {fk fv : Sto → Res Rs} {E : Sto} {ks : List Tx} {g : Tx → Dat} {x : Tx} {v : Dat} (h : slot E i = some (.dic ks (ks.map g), .deep)) (hl : ks.length ≤ 1000000) (hv : flat v = true ∨ ks.Nodup)
    (h1 : fv E = .ok ⟨v, rt, s, some []⟩) (h2 : fk E = .ok ⟨.str x, rt', s', m'⟩) : sPut i fk fv E = .ok (.nx (E.set i (some (.dic (addK ks x) ((addK ks x).map (updF g x v)), .deep)))) := by
  rw [e_put h, h1, bind_ok, h2, bind_ok]
  show sMut1 i (gPut x) E ⟨v, rt, s, some []⟩ = _
  unfold sMut1
  rw [take_flat]
  simp only [h, gPut_map hl hv, kMix]
  rfl
/-- d.setdefault(k, flat) -/
theorem gPut_new {ks : List Tx} {g : Tx → Dat} {x : Tx} {v : Dat} (h : ks.length ≤ 1000000) (hx : x ∉ ks) : gPut x (.dic ks (ks.map g)) v = some (.dic (addK ks x) ((addK ks x).map (updF g x v))) := by
  unfold gPut addK
  simp only
  rw [if_pos h, if_neg hx, if_neg hx, List.map_append, updF_out hx]
  have : updF g x v x = v := if_pos rfl
  simp [this]
/-- d.setdefault(k, v) -/
theorem setd_ok {i : Nat} {fk fv : Sto → Res Rs} {E : Sto} {ks : List Tx} {g : Tx → Dat} {x : Tx} {v : Dat} (h : slot E i = some (.dic ks (ks.map g), .deep)) (hl : ks.length ≤ 1000000)
    (h1 : fv E = .ok ⟨v, rt, s, some []⟩) (h2 : fk E = .ok ⟨.str x, rt', s', m'⟩) : sSetd i fk fv E = .ok (.nx (if x ∈ ks then E else E.set i (some (.dic (addK ks x) ((addK ks x).map (updF g x v)), .deep)))) := by
  unfold sSetd
  rw [h]
  show (fk E).bind _ = _
  rw [h2, bind_ok, h1, bind_ok]
  unfold sSetd1
  rw [h]
  simp only
  rw [if_neg (by decide)]
  by_cases hx : x ∈ ks
  · rw [if_pos hx, if_pos hl, if_pos hx]
  · rw [if_neg hx, if_neg hx]
    unfold sMut1
    rw [take_flat]
    simp only [h, gPut_new hl hx, kMix]
    rfl
theorem e_get2 {fo fk fd : Sto → Res Rs} {E : Sto} {ks : List Tx} {ds : List Dat} {x : Tx} {rc : Rs} (h : fo E = .ok ⟨.dic ks ds, rt, s, m⟩) (h1 : fk E = .ok ⟨.str x, rt', s', m'⟩) (h2 : fd E = .ok rc) :
    fGet2 fo fk fd E = match dGet ks ds x with
      | some d => .ok (pick ⟨.dic ks ds, rt, s, m⟩ d)
      | none => .ok rc := by
  unfold fGet2
  rw [h, bind_ok]
  simp only
  rw [h1, bind_ok, h2, bind_ok]
  rfl
/-! lists of a slot, written -/
theorem app_ok {i : Nat} {f : Sto → Res Rs} {E : Sto} {xs : List Dat} {d : Dat} (h : slot E i = some (.lst xs, .deep)) (hl : xs.length ≤ 1000000) (h1 : f E = .ok ⟨d, rt, s, some []⟩) : sMut lstAt i gApp f E = .ok (.nx (E.set i (some (.lst (xs ++ [d]), .deep)))) := by
  unfold sMut
  rw [h]
  show (f E).bind _ = _
  rw [h1, bind_ok]
  unfold sMut1
  rw [take_flat]
  simp only [h, gApp, if_pos hl, kMix]
  rfl
/-- .. with what another slot holds, which is given up -/
theorem app_mv {i j : Nat} {f : Sto → Res Rs} {E : Sto} {xs : List Dat} {d dd : Dat} (h : slot E i = some (.lst xs, .deep)) (hij : decide (j = i) = false) (hj : slot E j = some (dd, .deep)) (hl : xs.length ≤ 1000000) (h1 : f E = .ok ⟨d, rt, s, some [j]⟩) :
    sMut lstAt i gApp f E = .ok (.nx ((E.set j none).set i (some (.lst (xs ++ [d]), .deep)))) := by
  have hne : ¬ i = j := fun z => of_decide_eq_false hij z.symm
  unfold sMut
  rw [h]
  show (f E).bind _ = _
  rw [h1, bind_ok]
  unfold sMut1
  rw [take_one hj]
  have h2 : slot (E.set j none) i = some (.lst xs, .deep) := by
    rw [slot_set_none, if_neg hne, h]
  simp only [h2, gApp, if_pos hl, kMix]
  rfl
theorem ext_ok {i : Nat} {f : Sto → Res Rs} {E : Sto} {xs zs : List Dat} (h : slot E i = some (.lst xs, .deep)) (hl : xs.length + zs.length ≤ 1000000) (hf : flatL zs = true) (h1 : f E = .ok ⟨.lst zs, rt, s, m⟩) : sExt i f E = .ok (.nx (E.set i (some (.lst (xs ++ zs), .deep)))) := by
  unfold sExt
  rw [h]
  show (f E).bind _ = _
  rw [h1, bind_ok]
  unfold sExt1
  rw [h]
  simp only [hf, hl, decide_true, Bool.and_self, if_true, kMix]
  rfl
theorem ins_ok {i : Nat} {f : Sto → Res Rs} {E : Sto} {xs : List Dat} {d : Dat} (h : slot E i = some (.lst xs, .deep)) (hl : xs.length ≤ 1000000) (h1 : f E = .ok ⟨d, rt, s, some []⟩) : ∃ y, gIns (.lst xs) d = some y ∧ sMut lstAt i gIns f E = .ok (.nx (E.set i (some (y, .deep)))) := by
  refine ⟨.lst (d :: xs), ?_, ?_⟩
  · unfold gIns
    simp only
    first
      | rw [if_pos hl]
      | rfl
  · unfold sMut
    rw [h]
    show (f E).bind _ = _
    rw [h1, bind_ok]
    unfold sMut1
    rw [take_flat]
    simp only [h, gIns, if_pos hl, kMix]
    rfl
/-! methods of lists of texts -/
theorem e_lm {g : Rs → Rs → Res Rs} {fo f : Sto → Res Rs} {E : Sto} {xs : List Tx} (h : fo E = .ok ⟨.lst (xs.map .str), rt, s, m⟩) : fLM g fo f E = (f E).bind (g ⟨.lst (xs.map .str), rt, s, m⟩) := by
  unfold fLM
  rw [h, bind_ok]
  simp only [seqOf, Option.bind, strs_map]
theorem e_lidx {xs : List Tx} {x : Tx} (h : x ∈ xs) : gLIdx ⟨.lst (xs.map .str), rt, s, m⟩ ⟨.str x, rt', s', m'⟩ = .ok ⟨.int (xs.idxOf x), false, [], some []⟩ := by
  unfold gLIdx
  simp only [seqOf, Option.bind, strs_map]
  rw [if_pos h]
  rfl
theorem e_lcnt {xs : List Tx} {x : Tx} : gLCnt ⟨.lst (xs.map .str), rt, s, m⟩ ⟨.str x, rt', s', m'⟩ = .ok ⟨.int (xs.countP fun y => decide (y = x)), false, [], some []⟩ := by
  unfold gLCnt
  simp only [seqOf, Option.bind, strs_map]
  rfl
theorem e_max2 {i j : Int} : gMax2 ⟨.int i, rt, s, m⟩ ⟨.int j, rt', s', m'⟩ = .ok ⟨.int (if j > i then j else i), false, [], some []⟩ := (rfl)
theorem e_cont {x : Tx} {ys : List Tx} : ys.contains x = decide (x ∈ ys) := by
  by_cases h : x ∈ ys
  · rw [decide_eq_true h, List.contains_iff_mem.mpr h]
  · rw [decide_eq_false h]
    cases e : ys.contains x with
    | false => rfl
    | true => exact absurd (List.contains_iff_mem.mp e) h
theorem e_any_ss {x : Tx} {ys : List Tx} : anyEq (.str x) (ys.map .str) = .ok (decide (x ∈ ys)) := by
  rw [anyEq_s, e_cont]
theorem e_in_ss {neg : Bool} {x : Tx} {ys : List Tx} : gIn neg ⟨.str x, rt, s, m⟩ ⟨.lst (ys.map .str), rt', s', m'⟩ = .ok ⟨.bl (if neg then !decide (x ∈ ys) else decide (x ∈ ys)), false, [], some []⟩ := by
  rw [e_in_l, anyEq_s, bind_ok]
  have : ys.contains x = decide (x ∈ ys) := by
    by_cases h : x ∈ ys
    · rw [decide_eq_true h, List.contains_iff_mem.mpr h]
    · rw [decide_eq_false h]
      cases e : ys.contains x with
      | false => rfl
      | true => exact absurd (List.contains_iff_mem.mp e) h
  rw [this]
  rfl
theorem e_in_dd {neg : Bool} {x : Tx} {ks : List Tx} {ds : List Dat} : gIn neg ⟨.str x, rt, s, m⟩ ⟨.dic ks ds, rt', s', m'⟩ = .ok ⟨.bl (if neg then !decide (x ∈ ks) else decide (x ∈ ks)), false, [], some []⟩ := by
  rw [e_in_d]
  have : ks.contains x = decide (x ∈ ks) := by
    by_cases h : x ∈ ks
    · rw [decide_eq_true h, List.contains_iff_mem.mpr h]
    · rw [decide_eq_false h]
      cases e : ks.contains x with
      | false => rfl
      | true => exact absurd (List.contains_iff_mem.mp e) h
  rw [this]
  rfl
theorem e_rev_l {x : List Dat} (h : x.length ≤ 1000000) : gRev ⟨.lst x, rt, s, m⟩ = .ok (rNewL x.reverse s) := by
  unfold gRev
  first
    | rfl
    | exact if_pos h
theorem e_list_l {x : List Dat} : gList ⟨.lst x, rt, s, m⟩ = .ok (rNewL x s) := (rfl)
theorem e_ne0 {ks : List Tx} {ds ds' : List Dat} : gNe0 ⟨.dic ks ds, rt, s, m⟩ ⟨.dic [] ds', rt', s', m'⟩ = .ok ⟨.bl (!decide (ks = [])), false, [], some []⟩ := (rfl)
theorem e_dic0 {E : Sto} : fDic0 E = .ok ⟨.dic [] [], true, [], some []⟩ := (rfl)
end
/-! ### slots that others may know -/
def down1 (i : Nat) (o : Option (Dat × Kd)) (E : Sto) : Sto := match o with
  | some (d, _) => E.set i (some (d, .shr))
  | none => E
theorem e_down_cons {E : Sto} {i : Nat} {l : List Nat} : downE E (i :: l) = down1 i (slot (downE E l) i) (downE E l) := (rfl)
theorem e_down_some {i : Nat} {d : Dat} {k : Kd} {E : Sto} : down1 i (some (d, k)) E = E.set i (some (d, .shr)) := (rfl)
theorem e_down_none {i : Nat} {E : Sto} : down1 i none E = E := (rfl)
/-! ### unpacking -/
theorem e_unp {is : List Nat} {f : Sto → Res Rs} {E : Sto} : sUnp is f E = (f E).bind (sUnp1 is E) := (rfl)
theorem e_unp2 {i j : Nat} {E : Sto} {a b : Dat} {rt : Bool} {s : List Nat} (hi : i < E.length) (hj : j < E.length) (h : decide (i = j) = false) : sUnp1 [i, j] E ⟨.tup [a, b], rt, s, some []⟩ = .ok (.nx ((E.set i (some (a, .deep))).set j (some (b, .deep)))) := by
  have hne : ¬ i = j := of_decide_eq_false h
  unfold sUnp1
  rw [take_flat]
  simp [sPar.bindK, hi, hj, hne]
theorem e_unp3 {i j l : Nat} {E : Sto} {a b c : Dat} {rt : Bool} {s : List Nat} (hi : i < E.length) (hj : j < E.length) (hl : l < E.length) (h : decide (i = j) = false) (h1 : decide (i = l) = false) (h2 : decide (j = l) = false) :
    sUnp1 [i, j, l] E ⟨.tup [a, b, c], rt, s, some []⟩ = .ok (.nx (((E.set i (some (a, .deep))).set j (some (b, .deep))).set l (some (c, .deep)))) := by
  have hne : ¬ i = j := of_decide_eq_false h
  have hn1 : ¬ i = l := of_decide_eq_false h1
  have hn2 : ¬ j = l := of_decide_eq_false h2
  unfold sUnp1
  rw [take_flat]
  simp [sPar.bindK, hi, hj, hl, hne, hn1, hn2]
/-! ### walking dicts -/
theorem e_keys {i : Nat} {E : Sto} {ks : List Tx} {ds : List Dat} {k : Kd} (h : slot E i = some (.dic ks ds, k)) : iKeysF i E = .ok (ks.map Dat.str, [i]) := by
  unfold iKeysF
  rw [h]
theorem forD_of {T : Tgt} {i : Nat} {g : Sto → Res Fl} {E : Sto} {ks : List Tx} {ds : List Dat} {k : Kd} {fl : Fl} (h : slot E i = some (.dic ks ds, k)) (hg : forGo T g (ks.map Dat.str) (downE E [i]) = .ok fl) : sForD T i g E = .ok fl := by
  unfold sForD sFor
  rw [e_keys h, bind_ok, hg]
/-! ### loops by functions -/
theorem forGo_rel {α β : Type} {T : Tgt} {g : Sto → Res Fl} (e : α → Dat) (st : β → α → β) (P : β → Sto → Prop) : ∀ {xs : List α} {b : β} {E : Sto},
    (∀ b a E, a ∈ xs → P b E → ∃ E1 E2, bindT T (e a) E = some E1 ∧ (g E1 = .ok (.nx E2) ∨ g E1 = .ok (.ct E2)) ∧ P (st b a) E2) → P b E → ∃ E', forGo T g (xs.map e) E = .ok (.nx E') ∧ P (xs.foldl st b) E'
  | [], b, E, _, h => ⟨E, rfl, h⟩
  | x :: xs, b, E, hs, h => by
    obtain ⟨E1, E2, h1, h2, h3⟩ := hs b x E List.mem_cons_self h
    obtain ⟨E', h4, h5⟩ := forGo_rel e st P (xs := xs) (fun b a E ha hp => hs b a E (List.mem_cons_of_mem _ ha) hp) h3
    refine ⟨E', ?_, h5⟩
    rw [List.map_cons]
    simp only [forGo, h1]
    rcases h2 with h2 | h2
    · rw [h2]
      exact h4
    · rw [h2]
      exact h4
/-- a loop that may return -/
theorem forGo_ret {α : Type} {T : Tgt} {g : Sto → Res Fl} (e : α → Dat) (P : List α → Sto → Prop) {d : Dat} {dp : Bool} : ∀ {xs : List α} {E : Sto},
    (∀ a r E, P (a :: r) E → ∃ E1, bindT T (e a) E = some E1 ∧ (g E1 = .ok (.rt d dp) ∨ ∃ E2, (g E1 = .ok (.nx E2) ∨ g E1 = .ok (.ct E2)) ∧ P r E2)) → P xs E → forGo T g (xs.map e) E = .ok (.rt d dp) ∨ ∃ E', forGo T g (xs.map e) E = .ok (.nx E') ∧ P [] E'
  | [], E, _, h => .inr ⟨E, rfl, h⟩
  | x :: xs, E, hs, h => by
    obtain ⟨E1, h1, h2⟩ := hs x xs E h
    rw [List.map_cons]
    simp only [forGo, h1]
    rcases h2 with h2 | ⟨E2, h2, h3⟩
    · rw [h2]
      exact .inl rfl
    · have ih := forGo_ret e P (xs := xs) hs h3
      rcases h2 with h2 | h2
      · rw [h2]
        exact ih
      · rw [h2]
        exact ih
theorem bindT_many {l : List Nat} {ds : List Dat} {E : Sto} : bindT (.many l) (.tup ds) E = bindL l ds E := rfl
theorem e_bindL0 {E : Sto} : bindL [] [] E = some E := (rfl)
theorem e_bindLS {i : Nat} {l : List Nat} {d : Dat} {ds : List Dat} {E : Sto} (h : i < E.length) : bindL (i :: l) (d :: ds) E = bindL l ds (E.set i (some (d, .shr))) := if_pos h
/-! ### comprehensions by functions -/
theorem comp_flat {α : Type} {T : Tgt} {own : List Nat} {fi : Sto → Res (List Dat × List Nat)} {ft : Sto → Res Bool} {fe : Sto → Res Rs} {E : Sto} {xs : List α} {e : α → Dat} {l : List Nat} (p : α → Bool) (f : α → Dat) (hi : fi E = .ok (xs.map e, l)) (hl : xs.length ≤ 1000000)
    (hs : ∀ x ∈ xs, ∃ E1, bindT T (e x) (wipeE E own) = some E1 ∧ ft E1 = .ok (p x) ∧ (p x = true → ∃ rt s, fe E1 = .ok ⟨f x, rt, s, some []⟩)) :
    ∃ s, fComp T own fi ft fe E = .ok ⟨.lst ((xs.filter p).map f), true, s, some []⟩ := by
  have key : ∀ {ys : List α}, (∀ y ∈ ys, y ∈ xs) → ∃ rs : List Rs, compGo (stepC T (wipeE E own) ft fe) (ys.map e) = .ok rs ∧ rs.map (·.d) = (ys.filter p).map f ∧ (∀ r ∈ rs, r.mv = some []) ∧ rs.length ≤ ys.length := by
    intro ys
    induction ys with
    | nil => exact fun _ => ⟨[], rfl, rfl, (fun _ z => nomatch z), Nat.le_refl _⟩
    | cons y ys ih =>
      intro hy
      obtain ⟨rs, h1, h2, h3, h4⟩ := ih fun z hz => hy z (List.mem_cons_of_mem _ hz)
      obtain ⟨E1, k1, k2, k3⟩ := hs y (hy y List.mem_cons_self)
      have e1 : stepC T (wipeE E own) ft fe (e y) = (ft E1).bind (stepC1 fe E1) := e_step k1
      rw [k2, bind_ok] at e1
      cases hp : p y with
      | false =>
        refine ⟨rs, ?_, ?_, h3, Nat.le_succ_of_le h4⟩
        · show (stepC T (wipeE E own) ft fe (e y)).bind _ = _
          rw [e1, hp]
          show (compGo _ (ys.map e)).bind _ = _
          rw [h1]
          rfl
        · rw [h2, List.filter_cons_of_neg (by rw [hp]; decide)]
      | true =>
        obtain ⟨rt, s, k4⟩ := k3 hp
        refine ⟨⟨f y, rt, s, some []⟩ :: rs, ?_, ?_, fun r hr => ?_, Nat.succ_le_succ h4⟩
        · show (stepC T (wipeE E own) ft fe (e y)).bind _ = _
          rw [e1, hp]
          show ((fe E1).bind _).bind _ = _
          rw [k4]
          show (compGo _ (ys.map e)).bind _ = _
          rw [h1]
          rfl
        · rw [List.map_cons, h2, List.filter_cons_of_pos hp]
          rfl
        · rcases List.mem_cons.mp hr with q | q
          · rw [q]
          · exact h3 r q
  obtain ⟨rs, h1, h2, h3, h4⟩ := key fun _ z => z
  have hk : fComp T own fi ft fe E = .ok (rComp T rs l) := by
    rw [e_comp, hi, bind_ok]
    exact e_comp1 h1 (Nat.le_trans h4 hl)
  have hm : (rComp T rs l).mv = some [] := rComp_flat h3
  refine ⟨(allSrc rs).filter (fun j => decide (j ∉ slotsT T)) ++ l, ?_⟩
  rw [hk]
  have : rComp T rs l = ⟨.lst (rs.map (·.d)), true, (allSrc rs).filter (fun j => decide (j ∉ slotsT T)) ++ l, (rComp T rs l).mv⟩ := rfl
  rw [this, hm, h2]
theorem comp_flat0 {α : Type} {T : Tgt} {own : List Nat} {fi : Sto → Res (List Dat × List Nat)} {fe : Sto → Res Rs} {E : Sto} {xs : List α} {e : α → Dat} {l : List Nat} (f : α → Dat) (hi : fi E = .ok (xs.map e, l)) (hl : xs.length ≤ 1000000)
    (hs : ∀ x ∈ xs, ∃ E1, bindT T (e x) (wipeE E own) = some E1 ∧ ∃ rt s, fe E1 = .ok ⟨f x, rt, s, some []⟩) :
    ∃ s, fComp T own fi tTrue fe E = .ok ⟨.lst (xs.map f), true, s, some []⟩ := by
  obtain ⟨s, h⟩ := comp_flat (ft := tTrue) (fun _ => true) f hi hl fun x hx => by
    obtain ⟨E1, h1, rt, s, h2⟩ := hs x hx
    exact ⟨E1, h1, rfl, fun _ => ⟨rt, s, h2⟩⟩
  rw [List.filter_eq_self.mpr fun _ _ => rfl] at h
  exact ⟨s, h⟩
end PV

/-! the number that a law makes of a cell -/
namespace PV
open PySem PySem.Spec L2
def pvs_Num := And.intro @e_bok <| And.intro @e_bexc <| And.intro @fin_rt <| And.intro @fin_nx <| And.intro @fin_exc <| And.intro @run1 <| And.intro @run2 <| And.intro @run3 <| And.intro @run4 <| And.intro @e_seq <| And.intro @e_seq_nx <| And.intro @e_seq_rt <| And.intro @e_seq_bk <| And.intro @e_seq_ct <| And.intro @e_nil <| And.intro @e_pass <| And.intro @e_brk <| And.intro @e_cnt <| And.intro @e_retN <| And.intro @e_raise <| And.intro @e_drop <| And.intro @e_drop1 <| And.intro @e_ret <| And.intro @take_flat <| And.intro @e_ret_deep <| And.intro @e_ret_one <| And.intro @e_ret_none <| And.intro @e_if <| And.intro @e_if_t <| And.intro @e_if_f <| And.intro @e_set <| And.intro @e_set_deep <| And.intro @e_set_none <| And.intro @e_down_nil <| And.intro @e_wipe_nil <| And.intro @e_wipe <| And.intro @e_c <| And.intro @e_slot0 <| And.intro @e_slotS <| And.intro @e_var <| And.intro @e_var1 <| And.intro @e_rv_int <| And.intro @e_rv_str <| And.intro @e_rv_bl <| And.intro @e_rv_non <| And.intro @e_rv_lstD <| And.intro @e_rv_lstR <| And.intro @e_rv_lstS <| And.intro @e_rv_dicD <| And.intro @e_rv_dicR <| And.intro @e_rv_dicS <| And.intro @e_bin <| And.intro @e_bin1 <| And.intro @e_one <| And.intro @e_tOf <| And.intro @e_toB <| And.intro @e_tNot <| And.intro @e_tNot1 <| And.intro @e_tAnd <| And.intro @e_tOr <| And.intro @e_tAnd_t <| And.intro @e_tAnd_f <| And.intro @e_tOr_t <| And.intro @e_tOr_f <| And.intro @e_and <| And.intro @e_or <| And.intro @e_and_t <| And.intro @e_and_f <| And.intro @e_or_t <| And.intro @e_or_f <| And.intro @e_not <| And.intro @e_not1 <| And.intro @e_neg <| And.intro @e_neg1 <| And.intro @e_ife <| And.intro @e_ife_t <| And.intro @e_ife_f <| And.intro @e_aNil <| And.intro @e_aCons <| And.intro @e_aCons1 <| And.intro @e_aCons2 <| And.intro @e_tup <| And.intro @e_lst <| And.intro @e_tup1 <| And.intro @e_lst1 <| And.intro @e_src0 <| And.intro @e_srcS <| And.intro @e_mv0 <| And.intro @e_mvS <| And.intro @e_mvN <| And.intro @e_mvC <| And.intro @e_mvC0 <| And.intro @e_add_i <| And.intro @e_add_s <| And.intro @e_add_l <| And.intro @e_sub <| And.intro @e_mod <| And.intro @e_fdv <| And.intro @e_mul <| And.intro @e_mul_s <| And.intro @e_pow18 <| And.intro @e_lt <| And.intro @e_le <| And.intro @e_gt <| And.intro @e_ge <| And.intro @e_eq <| And.intro @e_ne <| And.intro @e_eq1 <| And.intro @e_ne1 <| And.intro @eqF_s <| And.intro @eqF_i <| And.intro @eqF_b <| And.intro @eqF_ln <| And.intro @eqF_rn <| And.intro @e_in_s <| And.intro @e_in_l <| And.intro @e_in_r <| And.intro @e_in_t <| And.intro @e_in_d <| And.intro @e_in1 <| And.intro @e_rsB_f <| And.intro @e_rsB_t <| And.intro @e_pick_s <| And.intro @e_pick_i <| And.intro @e_pick_b <| And.intro @e_pick_l <| And.intro @e_pick_d <| And.intro @e_subs_l <| And.intro @e_subs_r <| And.intro @e_subs_t <| And.intro @e_subs_s <| And.intro @e_subs_d <| And.intro @e_subs1 <| And.intro @e_subsS <| And.intro @e_oNone <| And.intro @e_oSome <| And.intro @e_oSome1 <| And.intro @e_sl <| And.intro @e_sl1 <| And.intro @e_sl2 <| And.intro @e_sl_s <| And.intro @e_sl_l <| And.intro @e_sl_r <| And.intro @e_newL <| And.intro @e_newN <| And.intro @e_len_l <| And.intro @e_len_r <| And.intro @e_len_t <| And.intro @e_len_d <| And.intro @e_len_s <| And.intro @e_sum <| And.intro @e_all <| And.intro @e_any <| And.intro @e_m1 <| And.intro @e_m11 <| And.intro @e_startsw <| And.intro @e_strip <| And.intro @e_lstrip <| And.intro @e_split <| And.intro @e_join <| And.intro @e_iOf <| And.intro @e_it_l <| And.intro @e_it_r <| And.intro @e_it_t <| And.intro @e_it_s <| And.intro @e_range1 <| And.intro @e_rg1 <| And.intro @e_for <| And.intro @e_for1 <| And.intro @e_tTrue <| And.intro @e_step <| And.intro @e_step_t <| And.intro @e_step_f <| And.intro @e_step2 <| And.intro @e_bind1 <| And.intro @e_call <| And.intro @e_call1 <| And.intro @e_call_s <| And.intro @e_call_i <| And.intro @e_call_b <| And.intro @e_call_n <| And.intro @e_call_l <| And.intro @e_call_d <| And.intro @e_isi_s <| And.intro @e_cut_hi <| And.intro @e_cut_lo <| And.intro @e_cut_mid <| And.intro @e_cut_last <| And.intro @e_cut_init <| And.intro @e_rv_rol <| And.intro @e_par <| And.intro @e_par2 <| And.intro @e_par3 <| And.intro @e_wh1_t <| And.intro @e_wh1_f <| And.intro @e_wh2_nx <| And.intro @e_wh2_ct <| And.intro @e_wh2_bk <| And.intro @e_wh2_rt <| And.intro @e_sorted_s <| And.intro @e_list_d <| And.intro @e_sorted_t <| And.intro @e_sortSet_s <| And.intro @e_lenSet_s <| And.intro @e_min_s <| And.intro @e_max_i <| And.intro @e_chain <| And.intro @e_chain1 <| And.intro @e_chain2 <| And.intro @e_chain_t <| And.intro @e_chain_f <| And.intro @e_isi_l <| And.intro @e_isi_t <| And.intro @e_isi_ss <| And.intro @e_rv_tupF <| And.intro @e_rv_tupS <| And.intro @e_rv_tupD <| And.intro @e_pick_tF <| And.intro @e_pick_tS <| And.intro @e_call_tF <| And.intro @e_call_lS <| And.intro @e_flat0 <| And.intro @e_flat_s <| And.intro @e_flat_i <| And.intro @e_flat_b <| And.intro @e_flat_n <| And.intro @e_flat_l <| And.intro @e_newLs <| And.intro @e_newLi <| And.intro @e_at0 <| And.intro @e_at1 <| And.intro @e_at2 <| And.intro @e_at3 <| And.intro @e_atL <| And.intro @e_subs_map <| And.intro @e_put <| And.intro @e_get2 <| And.intro @e_lm <| And.intro @e_lidx <| And.intro @e_lcnt <| And.intro @e_max2 <| And.intro @e_cont <| And.intro @e_any_ss <| And.intro @e_in_ss <| And.intro @e_in_dd <| And.intro @e_rev_l <| And.intro @e_list_l <| And.intro @e_ne0 <| And.intro @e_dic0 <| And.intro @e_down_cons <| And.intro @e_down_some <| And.intro @e_down_none <| And.intro @e_unp <| And.intro @e_unp2 <| And.intro @e_unp3 <| And.intro @e_keys <| And.intro @e_bindL0 <| And.intro @e_bindLS <| And.intro @List.length_cons.{0} <| And.intro @List.length_map.{0,0} <| And.intro @List.length_nil.{0} <| And.intro @List.map_cons.{0,0} <| And.intro @List.map_nil.{0,0} <| And.intro @List.replicate_succ.{0} <| And.intro @List.replicate_zero.{0} <| And.intro @List.set_cons_zero.{0} <| And.intro @List.set_cons_succ.{0} <| And.intro @List.cons_append.{0} <| And.intro @List.nil_append.{0} <| And.intro @List.append_nil.{0} <| And.intro @Nat.zero_add <| And.intro @Nat.add_zero <| And.intro @Nat.zero_lt_succ <| And.intro @Nat.lt_add_left_iff_pos <| @Nat.succ_pos
def numL (a b c : Int) : Int := if 1000000000000000000 ≤ a then a else
  let m := ((a + 977 * b) * 48271 + c) % 2147483647
  let r := m * (m + 31 * b + 7) * (m + a + 5)
  r * (r + 48271) / 1009
theorem bits_lit {z : Int} {n : Nat} (h : z.natAbs < 2 ^ n) : Builtin.Int.intBits z ≤ n := intBits_le_iff.mpr h
theorem numE {a b c : Int} (ha : Builtin.Int.intBits a ≤ 2000000) (hb : Builtin.Int.intBits b ≤ 2000000) (hc : Builtin.Int.intBits c ≤ 2000000) : c__law_number [.int a, .int b, .int c] = .ok (.int (numL a b c), true) := by
  unfold c__law_number g__law_number
  by_cases h1 : (1000000000000000000 : Int) ≤ a
  · simp only [pvs_Num, Nat.reduceSub, Nat.reduceAdd, Nat.reduceLT, Nat.reduceLeDiff, Nat.reduceEqDiff, decide_true, decide_false, Bool.not_true, Bool.not_false, reduceCtorEq, eq_self, if_true, if_false, h1, numL, if_true]
  · have h2 : cMul 977 b = true := cMul_of (bits_lit (n := 10) (by decide)) hb (by omega)
    have b1 : Builtin.Int.intBits (977 * b) ≤ 10 + 2000000 := PyProof.Rows.bits_mul (bits_lit (by decide)) hb
    have b2 : Builtin.Int.intBits (a + 977 * b) ≤ 2000011 := Nat.le_trans (PyProof.Rows.bits_add ha b1) (by omega)
    have h3 : cMul (a + 977 * b) 48271 = true := cMul_of b2 (bits_lit (n := 16) (by decide)) (by omega)
    have b3 : Builtin.Int.intBits (((a + 977 * b) * 48271 + c) % 2147483647) ≤ 40 := by
      refine bits_lit ?_
      have h5 : 0 ≤ ((a + 977 * b) * 48271 + c) % 2147483647 := Int.emod_nonneg _ (by decide)
      have h6 : ((a + 977 * b) * 48271 + c) % 2147483647 < 2147483647 := Int.emod_lt_of_pos _ (by omega)
      have : (2 : Nat) ^ 40 = 1099511627776 := by decide
      omega
    generalize hm : ((a + 977 * b) * 48271 + c) % 2147483647 = m at b3
    have h4 : cMul 31 b = true := cMul_of (bits_lit (n := 5) (by decide)) hb (by omega)
    have b4 : Builtin.Int.intBits (31 * b) ≤ 5 + 2000000 := PyProof.Rows.bits_mul (bits_lit (by decide)) hb
    have b5 : Builtin.Int.intBits (m + 31 * b) ≤ 2000006 := Nat.le_trans (PyProof.Rows.bits_add b3 b4) (by omega)
    have b6 : Builtin.Int.intBits (m + 31 * b + 7) ≤ 2000007 := Nat.le_trans (PyProof.Rows.bits_add b5 (bits_lit (n := 3) (by decide))) (by omega)
    have h5 : cMul m (m + 31 * b + 7) = true := cMul_of b3 b6 (by omega)
    have b7 := PyProof.Rows.bits_mul b3 b6
    have b8 : Builtin.Int.intBits (m + a) ≤ 2000001 := Nat.le_trans (PyProof.Rows.bits_add b3 ha) (by omega)
    have b9 : Builtin.Int.intBits (m + a + 5) ≤ 2000002 := Nat.le_trans (PyProof.Rows.bits_add b8 (bits_lit (n := 3) (by decide))) (by omega)
    have h6 : cMul (m * (m + 31 * b + 7)) (m + a + 5) = true := cMul_of b7 b9 (by omega)
    have b10 := PyProof.Rows.bits_mul b7 b9
    have b11 : Builtin.Int.intBits (m * (m + 31 * b + 7) * (m + a + 5) + 48271) ≤ 4000050 := Nat.le_trans (PyProof.Rows.bits_add b10 (bits_lit (n := 16) (by decide))) (by omega)
    have h7 : cMul (m * (m + 31 * b + 7) * (m + a + 5)) (m * (m + 31 * b + 7) * (m + a + 5) + 48271) = true := cMul_of b10 b11 (by omega)
    have e0 : (0 : Int) < 2147483647 := by decide
    have e1 : (0 : Int) < 1009 := by decide
    have e2 : (1009 : Int) < 1073741824 := by decide
    have e3 : numL a b c = m * (m + 31 * b + 7) * (m + a + 5) * (m * (m + 31 * b + 7) * (m + a + 5) + 48271) / 1009 := by
      unfold numL
      rw [if_neg h1, ← hm]
    rw [e3]
    simp only [pvs_Num, Nat.reduceSub, Nat.reduceAdd, Nat.reduceLT, Nat.reduceLeDiff, Nat.reduceEqDiff, decide_true, decide_false, Bool.not_true, Bool.not_false, reduceCtorEq, eq_self, if_true, if_false, h1, h2, h3, hm, h4, h5, h6, h7, e0, e1, e2]
/-- a number of few bits -/
theorem bits_small {z : Int} (h : z.natAbs < 1000000) : Builtin.Int.intBits z ≤ 2000000 := Nat.le_trans (bits_lit (n := 20) (by
  have : (2 : Nat) ^ 20 = 1048576 := by decide
  omega)) (by omega)
theorem bits_sum : ∀ {ns : List Int} {k : Nat}, (∀ z ∈ ns, Builtin.Int.intBits z ≤ 1048576) → ns.length ≤ k → Builtin.Int.intBits ns.sum ≤ 1048576 + k
  | [], k, _, _ => by
    have : Builtin.Int.intBits ([] : List Int).sum = 0 := by decide
    rw [this]
    exact Nat.zero_le _
  | z :: ns, 0, _, h => by simp at h
  | z :: ns, k + 1, hz, h => by
    have ih := bits_sum (ns := ns) (k := k) (fun y hy => hz y (List.mem_cons_of_mem _ hy)) (by simpa using h)
    rw [List.sum_cons]
    refine Nat.le_trans (PyProof.Rows.bits_add (hz z List.mem_cons_self) ih) ?_
    omega
end PV

/-! titles made bare -/
namespace PV
open PySem PySem.Spec L2
def pvs_Bare := And.intro @e_bok <| And.intro @e_bexc <| And.intro @fin_rt <| And.intro @fin_nx <| And.intro @fin_exc <| And.intro @run1 <| And.intro @run2 <| And.intro @run3 <| And.intro @run4 <| And.intro @e_seq <| And.intro @e_seq_nx <| And.intro @e_seq_rt <| And.intro @e_seq_bk <| And.intro @e_seq_ct <| And.intro @e_nil <| And.intro @e_pass <| And.intro @e_brk <| And.intro @e_cnt <| And.intro @e_retN <| And.intro @e_raise <| And.intro @e_drop <| And.intro @e_drop1 <| And.intro @e_ret <| And.intro @take_flat <| And.intro @e_ret_deep <| And.intro @e_ret_one <| And.intro @e_ret_none <| And.intro @e_if <| And.intro @e_if_t <| And.intro @e_if_f <| And.intro @e_set <| And.intro @e_set_deep <| And.intro @e_set_none <| And.intro @e_down_nil <| And.intro @e_wipe_nil <| And.intro @e_wipe <| And.intro @e_c <| And.intro @e_slot0 <| And.intro @e_slotS <| And.intro @e_var <| And.intro @e_var1 <| And.intro @e_rv_int <| And.intro @e_rv_str <| And.intro @e_rv_bl <| And.intro @e_rv_non <| And.intro @e_rv_lstD <| And.intro @e_rv_lstR <| And.intro @e_rv_lstS <| And.intro @e_rv_dicD <| And.intro @e_rv_dicR <| And.intro @e_rv_dicS <| And.intro @e_bin <| And.intro @e_bin1 <| And.intro @e_one <| And.intro @e_tOf <| And.intro @e_toB <| And.intro @e_tNot <| And.intro @e_tNot1 <| And.intro @e_tAnd <| And.intro @e_tOr <| And.intro @e_tAnd_t <| And.intro @e_tAnd_f <| And.intro @e_tOr_t <| And.intro @e_tOr_f <| And.intro @e_and <| And.intro @e_or <| And.intro @e_and_t <| And.intro @e_and_f <| And.intro @e_or_t <| And.intro @e_or_f <| And.intro @e_not <| And.intro @e_not1 <| And.intro @e_neg <| And.intro @e_neg1 <| And.intro @e_ife <| And.intro @e_ife_t <| And.intro @e_ife_f <| And.intro @e_aNil <| And.intro @e_aCons <| And.intro @e_aCons1 <| And.intro @e_aCons2 <| And.intro @e_tup <| And.intro @e_lst <| And.intro @e_tup1 <| And.intro @e_lst1 <| And.intro @e_src0 <| And.intro @e_srcS <| And.intro @e_mv0 <| And.intro @e_mvS <| And.intro @e_mvN <| And.intro @e_mvC <| And.intro @e_mvC0 <| And.intro @e_add_i <| And.intro @e_add_s <| And.intro @e_add_l <| And.intro @e_sub <| And.intro @e_mod <| And.intro @e_fdv <| And.intro @e_mul <| And.intro @e_mul_s <| And.intro @e_pow18 <| And.intro @e_lt <| And.intro @e_le <| And.intro @e_gt <| And.intro @e_ge <| And.intro @e_eq <| And.intro @e_ne <| And.intro @e_eq1 <| And.intro @e_ne1 <| And.intro @eqF_s <| And.intro @eqF_i <| And.intro @eqF_b <| And.intro @eqF_ln <| And.intro @eqF_rn <| And.intro @e_in_s <| And.intro @e_in_l <| And.intro @e_in_r <| And.intro @e_in_t <| And.intro @e_in_d <| And.intro @e_in1 <| And.intro @e_rsB_f <| And.intro @e_rsB_t <| And.intro @e_pick_s <| And.intro @e_pick_i <| And.intro @e_pick_b <| And.intro @e_pick_l <| And.intro @e_pick_d <| And.intro @e_subs_l <| And.intro @e_subs_r <| And.intro @e_subs_t <| And.intro @e_subs_s <| And.intro @e_subs_d <| And.intro @e_subs1 <| And.intro @e_subsS <| And.intro @e_oNone <| And.intro @e_oSome <| And.intro @e_oSome1 <| And.intro @e_sl <| And.intro @e_sl1 <| And.intro @e_sl2 <| And.intro @e_sl_s <| And.intro @e_sl_l <| And.intro @e_sl_r <| And.intro @e_newL <| And.intro @e_newN <| And.intro @e_len_l <| And.intro @e_len_r <| And.intro @e_len_t <| And.intro @e_len_d <| And.intro @e_len_s <| And.intro @e_sum <| And.intro @e_all <| And.intro @e_any <| And.intro @e_m1 <| And.intro @e_m11 <| And.intro @e_startsw <| And.intro @e_strip <| And.intro @e_lstrip <| And.intro @e_split <| And.intro @e_join <| And.intro @e_iOf <| And.intro @e_it_l <| And.intro @e_it_r <| And.intro @e_it_t <| And.intro @e_it_s <| And.intro @e_range1 <| And.intro @e_rg1 <| And.intro @e_for <| And.intro @e_for1 <| And.intro @e_comp <| And.intro @e_comp1 <| And.intro @e_tTrue <| And.intro @e_step <| And.intro @e_step_t <| And.intro @e_step_f <| And.intro @e_step2 <| And.intro @e_bind1 <| And.intro @e_call <| And.intro @e_call1 <| And.intro @e_call_s <| And.intro @e_call_i <| And.intro @e_call_b <| And.intro @e_call_n <| And.intro @e_call_l <| And.intro @e_call_d <| And.intro @e_isi_s <| And.intro @e_cut_hi <| And.intro @e_cut_lo <| And.intro @e_cut_mid <| And.intro @e_cut_last <| And.intro @e_cut_init <| And.intro @e_rv_rol <| And.intro @e_par <| And.intro @e_par2 <| And.intro @e_par3 <| And.intro @e_wh1_t <| And.intro @e_wh1_f <| And.intro @e_wh2_nx <| And.intro @e_wh2_ct <| And.intro @e_wh2_bk <| And.intro @e_wh2_rt <| And.intro @e_sorted_s <| And.intro @e_list_d <| And.intro @e_sorted_t <| And.intro @e_sortSet_s <| And.intro @e_lenSet_s <| And.intro @e_min_s <| And.intro @e_max_i <| And.intro @e_chain <| And.intro @e_chain1 <| And.intro @e_chain2 <| And.intro @e_chain_t <| And.intro @e_chain_f <| And.intro @e_isi_l <| And.intro @e_isi_t <| And.intro @e_isi_ss <| And.intro @e_rv_tupF <| And.intro @e_rv_tupS <| And.intro @e_rv_tupD <| And.intro @e_pick_tF <| And.intro @e_pick_tS <| And.intro @e_call_tF <| And.intro @e_call_lS <| And.intro @e_flat0 <| And.intro @e_flat_s <| And.intro @e_flat_i <| And.intro @e_flat_b <| And.intro @e_flat_n <| And.intro @e_flat_l <| And.intro @e_newLs <| And.intro @e_newLi <| And.intro @e_at0 <| And.intro @e_at1 <| And.intro @e_at2 <| And.intro @e_at3 <| And.intro @e_atL <| And.intro @e_subs_map <| And.intro @e_put <| And.intro @e_get2 <| And.intro @e_lm <| And.intro @e_lidx <| And.intro @e_lcnt <| And.intro @e_max2 <| And.intro @e_cont <| And.intro @e_any_ss <| And.intro @e_in_ss <| And.intro @e_in_dd <| And.intro @e_rev_l <| And.intro @e_list_l <| And.intro @e_ne0 <| And.intro @e_dic0 <| And.intro @e_down_cons <| And.intro @e_down_some <| And.intro @e_down_none <| And.intro @e_unp <| And.intro @e_unp2 <| And.intro @e_unp3 <| And.intro @e_keys <| And.intro @e_bindL0 <| And.intro @e_bindLS <| And.intro @List.length_cons.{0} <| And.intro @List.length_map.{0,0} <| And.intro @List.length_nil.{0} <| And.intro @List.map_cons.{0,0} <| And.intro @List.map_nil.{0,0} <| And.intro @List.replicate_succ.{0} <| And.intro @List.replicate_zero.{0} <| And.intro @List.set_cons_zero.{0} <| And.intro @List.set_cons_succ.{0} <| And.intro @List.cons_append.{0} <| And.intro @List.nil_append.{0} <| And.intro @List.append_nil.{0} <| And.intro @Nat.zero_add <| And.intro @Nat.add_zero <| And.intro @Nat.zero_lt_succ <| And.intro @Nat.lt_add_left_iff_pos <| @Nat.succ_pos
/-! ### signs -/
def alph : Tx := [97, 98, 99, 100, 101, 102, 103, 104, 105, 106, 107, 108, 109, 110, 111, 112, 113, 114, 115, 116, 117, 118, 119, 120, 121, 122]
def okS (c : Nat) : Bool := decide (c ∈ alph) || (decide (c = 32) || decide (c = 58))
def okT (x : Tx) : Prop := x.all okS = true
theorem alphE : alph = [97, 98, 99, 100, 101, 102, 103, 104, 105, 106, 107, 108, 109, 110, 111, 112, 113, 114, 115, 116, 117, 118, 119, 120, 121, 122] := rfl
theorem isTitleE {x : Tx} (h : x.length ≤ 1000000) : c_is_title [.str x] = .ok (.bl (decide (x.length ≤ 12) && x.all okS), true) := by
  unfold c_is_title g_is_title y_is_title_1
  have hs : decide ("str" = "str") = true := by decide
  by_cases h1 : (12 : Int) < (x.length : Int)
  · have h2 : decide (x.length ≤ 12) = false := decide_eq_false (by omega)
    simp only [pvs_Bare, Nat.reduceSub, Nat.reduceAdd, Nat.reduceLT, Nat.reduceLeDiff, Nat.reduceEqDiff, decide_true, decide_false, Bool.not_true, Bool.not_false, reduceCtorEq, eq_self, if_true, if_false, hs, h, h1, h2, Bool.false_and]
  · have h2 : decide (x.length ≤ 12) = true := decide_eq_true (by omega)
    have hc : compGo (stepC (.one 1) [some (.str x, .shr), none] tTrue (fOr (fBin (gIn false) (fVar 1) (fC (.str [97, 98, 99, 100, 101, 102, 103, 104, 105, 106, 107, 108, 109, 110, 111, 112, 113, 114, 115, 116, 117, 118, 119, 120, 121, 122]))) (fBin (gIn false) (fVar 1) (fTup (aCons (fC (.str [32])) (aCons (fC (.str [58])) aNil)))))) (x.map fun c => Dat.str [c]) = .ok (x.map fun c => (⟨.bl (okS c), false, [], some []⟩ : Rs)) := by
      refine compGo_map fun c _ => ?_
      have e1 : anyEq (.str [c]) [.str [32], .str [58]] = .ok (decide (c = 32) || decide (c = 58)) := by
        have := anyEq_s (x := [c]) (ys := [[32], [58]])
        simp only [List.map_cons, List.map_nil] at this
        rw [this]
        simp
      rw [e_step (e_bind1 (by simp))]
      simp only [pvs_Bare, Nat.reduceSub, Nat.reduceAdd, Nat.reduceLT, Nat.reduceLeDiff, Nat.reduceEqDiff, decide_true, decide_false, Bool.not_true, Bool.not_false, reduceCtorEq, eq_self, if_true, if_false, ← alphE]
      have e2 : ∀ E : Sto, slot E 1 = some (.str [c], .shr) → fBin (gIn false) (fVar 1) (fTup (aCons (fC (.str [32])) (aCons (fC (.str [58])) aNil))) E = .ok ⟨.bl (decide (c = 32) || decide (c = 58)), false, [], some []⟩ := by
        intro E hE
        simp only [pvs_Bare, Nat.reduceSub, Nat.reduceAdd, Nat.reduceLT, Nat.reduceLeDiff, Nat.reduceEqDiff, decide_true, decide_false, Bool.not_true, Bool.not_false, reduceCtorEq, eq_self, if_true, if_false, hE, (by decide : (2 : Nat) ≤ 1000000), e1]
      rw [e_or_ok (e2 _ rfl)]
      simp only [pvs_Bare, Nat.reduceSub, Nat.reduceAdd, Nat.reduceLT, Nat.reduceLeDiff, Nat.reduceEqDiff, decide_true, decide_false, Bool.not_true, Bool.not_false, reduceCtorEq, eq_self, if_true, if_false]
      rfl
    have hk := e_comp1 (l := []) (own := [1]) (E := [some (.str x, .shr), none]) hc (by simpa using h)
    simp only [pvs_Bare, Nat.reduceSub, Nat.reduceAdd, Nat.reduceLT, Nat.reduceLeDiff, Nat.reduceEqDiff, decide_true, decide_false, Bool.not_true, Bool.not_false, reduceCtorEq, eq_self, if_true, if_false, hs, h, h1, h2, Bool.true_and, hk, rComp_F, gAll_F]
/-! ### blanks -/
def nr : Bool → Bool → Tx → Tx
  | _, _, [] => []
  | s, p, c :: r => if c = 32 then nr s true r else if (s && p) = true then 32 :: c :: nr true false r else c :: nr true false r
theorem nr_sp (s p : Bool) (r : Tx) : nr s p (32 :: r) = nr s true r := by
  simp [nr]
theorem nr_c (p : Bool) {c : Nat} (r : Tx) (h : c ≠ 32) : nr false p (c :: r) = c :: nr true false r := by
  simp [nr, h]
theorem nr_tf {c : Nat} (r : Tx) (h : c ≠ 32) : nr true false (c :: r) = c :: nr true false r := by
  simp [nr, h]
theorem nr_tt {c : Nat} (r : Tx) (h : c ≠ 32) : nr true true (c :: r) = 32 :: c :: nr true false r := by
  simp [nr, h]
theorem nr_f : ∀ (p : Bool) (r : Tx), nr false p r = nr false false r
  | _, [] => by simp [nr]
  | p, c :: r => by
    by_cases h : c = 32
    · subst h
      rw [nr_sp, nr_sp]
    · rw [nr_c _ _ h, nr_c _ _ h]
theorem nr_ttE : ∀ r : Tx, nr true true r = if nr false false r = [] then [] else 32 :: nr false false r
  | [] => by simp [nr]
  | c :: r => by
    by_cases h : c = 32
    · subst h
      rw [nr_sp, nr_sp, nr_f, nr_ttE r]
    · rw [nr_tt _ h, nr_c _ _ h, if_neg (by simp)]
theorem join_cons (a : Tx) (ws : List Tx) : joinT [32] (a :: ws) = a ++ (if ws = [] then [] else 32 :: joinT [32] ws) := by
  cases ws with
  | nil => simp [joinT, TL.joinL]
  | cons b ws => simp [joinT, TL.joinL]
def neB (w : Tx) : Bool := !decide (w = [])
theorem join_nil {ws : List Tx} (h : ∀ w ∈ ws, w ≠ []) : joinT [32] ws = [] ↔ ws = [] := by
  cases ws with
  | nil => simp [joinT, TL.joinL]
  | cons a ws =>
    rw [join_cons]
    simp [h a (by simp)]
theorem split_nr : ∀ (r acc : Tx), joinT [32] ((TL.spl [32] 0 acc r).filter neB) = if acc = [] then nr false false r else acc ++ nr true false r
  | [], acc => by
    by_cases h : acc = []
    · subst h
      simp [TL.spl, neB, nr, joinT, TL.joinL]
    · simp [TL.spl, neB, nr, joinT, TL.joinL, h]
  | c :: r, acc => by
    by_cases hc : c = 32
    · subst hc
      have e : TL.spl [32] 0 acc (32 :: r) = acc :: TL.spl [32] 0 [] r := by simp [TL.spl, TL.pre]
      have ih := split_nr r []
      rw [if_pos rfl] at ih
      have hn := join_nil (ws := (TL.spl [32] 0 [] r).filter neB) fun w hw => by
        have := (List.mem_filter.mp hw).2
        simpa [neB] using this
      rw [ih] at hn
      rw [e, nr_sp, nr_sp, nr_f]
      by_cases h : acc = []
      · subst h
        rw [if_pos rfl, List.filter_cons_of_neg (by simp [neB])]
        exact ih
      · rw [if_neg h, List.filter_cons_of_pos (by simp [neB, h]), join_cons, ih, nr_ttE]
        by_cases h2 : nr false false r = []
        · rw [if_pos h2, if_pos (hn.mp h2)]
        · rw [if_neg h2, if_neg (fun z => h2 (hn.mpr z))]
    · have e : TL.spl [32] 0 acc (c :: r) = TL.spl [32] 0 (acc ++ [c]) r := by simp [TL.spl, TL.pre, hc]
      rw [e, split_nr r (acc ++ [c]), if_neg (by simp), nr_c _ _ hc, nr_tf _ hc]
      by_cases h : acc = []
      · subst h
        rfl
      · rw [if_neg h]
        simp
/-- a text without a blank too much -/
def Nm (x : Tx) : Prop := nr false false x = x
theorem nr_idem : ∀ r : Tx, nr false false (nr false false r) = nr false false r ∧ nr true false (nr true false r) = nr true false r ∧ nr true false (nr true true r) = nr true true r
  | [] => by simp [nr]
  | c :: r => by
    obtain ⟨h1, h2, h3⟩ := nr_idem r
    by_cases h : c = 32
    · subst h
      rw [nr_sp, nr_sp, nr_sp, nr_f true r]
      exact ⟨h1, h3, h3⟩
    · rw [nr_c _ _ h, nr_c _ _ h, nr_tf _ h, nr_tf _ h, nr_tt _ h, nr_sp, nr_tt _ h, h2]
      exact ⟨rfl, rfl, rfl⟩
theorem nr_nm (x : Tx) : Nm (nr false false x) := (nr_idem x).1
theorem nr_len : ∀ (s p : Bool) (r : Tx), (nr s p r).length ≤ r.length + (if (s && p) = true then 1 else 0)
  | _, _, [] => by simp [nr]
  | s, p, c :: r => by
    by_cases h : c = 32
    · subst h
      rw [nr_sp]
      have := nr_len s true r
      cases s <;> cases p <;> simp at this ⊢ <;> omega
    · have := nr_len true false r
      simp at this
      cases s <;> cases p <;> simp [nr, h] <;> omega
theorem nr_last : ∀ (s p : Bool) (r : Tx), (nr s p r).getLast? ≠ some 32
  | _, _, [] => by simp [nr]
  | s, p, c :: r => by
    by_cases h : c = 32
    · subst h
      rw [nr_sp]
      exact nr_last s true r
    · have ih := nr_last true false r
      have key : (c :: nr true false r).getLast? ≠ some 32 := by
        cases e : nr true false r with
        | nil => simpa using h
        | cons a l =>
          rw [List.getLast?_cons_cons, ← e]
          exact ih
      cases s <;> cases p <;> simp only [nr, if_neg h, Bool.and_self, Bool.and_true, Bool.and_false, Bool.false_eq_true, if_false, if_true]
      · exact key
      · exact key
      · exact key
      · rw [List.getLast?_cons_cons]
        exact key
theorem nr_mem : ∀ (s p : Bool) (r : Tx) (c : Nat), c ∈ nr s p r → c ∈ r ∨ c = 32
  | _, _, [], c, h => by simp [nr] at h
  | s, p, a :: r, c, h => by
    by_cases ha : a = 32
    · subst ha
      rw [nr_sp] at h
      exact (nr_mem s true r c h).imp (List.mem_cons_of_mem _) id
    · have ih := nr_mem true false r c
      cases s <;> cases p <;> simp only [nr, if_neg ha, Bool.and_self, Bool.and_true, Bool.and_false, Bool.false_eq_true, if_false, if_true, List.mem_cons] at h
      all_goals
        rcases h with h | h
        · first | exact .inr h | exact .inl (by simp [h])
        · first | exact (ih h).imp (List.mem_cons_of_mem _) id | (rcases h with h | h; exact .inl (by simp [h]); exact (ih h).imp (List.mem_cons_of_mem _) id)
def isB32 : Nat → Bool := fun c => [32].contains c
theorem strip_nm {x : Tx} (h : Nm x) : stripL isB32 x = x := by
  have hl := nr_last false false x
  rw [h] at hl
  have h1 : x.dropWhile isB32 = x := by
    cases x with
    | nil => rfl
    | cons c r =>
      refine List.dropWhile_cons_of_neg fun z => ?_
      have hc : c = 32 := by simpa [isB32] using z
      subst hc
      unfold Nm at h
      rw [nr_sp, nr_f] at h
      have := nr_len false false r
      rw [h] at this
      simp at this
      omega
  have h2 : x.reverse.dropWhile isB32 = x.reverse := by
    cases e : x.reverse with
    | nil => rfl
    | cons c r =>
      refine List.dropWhile_cons_of_neg fun z => hl ?_
      have hc : c = 32 := by simpa [isB32] using z
      rw [← List.head?_reverse, e, hc]
      rfl
  unfold stripL
  rw [h1, h2, List.reverse_reverse]
/-! ### re: -/
def reT : Tx := [114, 101, 58]
def stp (s : Tx) : Tx := if (s.drop 3).take 1 = [32] then s.drop 4 else s.drop 3
def lp : Nat → Tx → Tx
  | 0, s => s
  | n + 1, s => if s.take 3 = reT then lp n (stp s) else s
theorem re_split {s : Tx} (h : s.take 3 = reT) : ∃ r, s = 114 :: 101 :: 58 :: r := by
  rw [← List.take_append_drop 3 s, h]
  exact ⟨s.drop 3, rfl⟩
theorem stp_ok {s : Tx} (h : Nm s) (hr : s.take 3 = reT) : stripL isB32 (s.drop 3) = stp s ∧ Nm (stp s) ∧ (stp s).length < s.length := by
  obtain ⟨r, rfl⟩ := re_split hr
  unfold Nm at h
  rw [nr_c _ _ (by decide), nr_tf _ (by decide), nr_tf _ (by decide)] at h
  have hm : nr true false r = r := by simpa using h
  cases r with
  | nil => exact ⟨rfl, rfl, by decide⟩
  | cons c r =>
    by_cases hc : c = 32
    · subst hc
      rw [nr_sp] at hm
      cases r with
      | nil => simp [nr] at hm
      | cons b r =>
        have hb : b ≠ 32 := fun z => by
          subst z
          rw [nr_sp] at hm
          have := nr_len true true r
          rw [hm] at this
          simp at this
          omega
        rw [nr_tt _ hb] at hm
        have h3 : nr true false r = r := by simpa using hm
        have h4 : Nm (b :: r) := by
          unfold Nm
          rw [nr_c _ _ hb, h3]
        have e : stp (114 :: 101 :: 58 :: 32 :: b :: r) = b :: r := rfl
        have e2 : stripL isB32 (32 :: b :: r) = stripL isB32 (b :: r) := by
          unfold stripL
          rw [List.dropWhile_cons_of_pos (by decide)]
        rw [e]
        refine ⟨?_, h4, by simp⟩
        show stripL isB32 (32 :: b :: r) = _
        rw [e2, strip_nm h4]
    · rw [nr_tf _ hc] at hm
      have h3 : nr true false r = r := by simpa using hm
      have h4 : Nm (c :: r) := by
        unfold Nm
        rw [nr_c _ _ hc, h3]
      have e : stp (114 :: 101 :: 58 :: c :: r) = c :: r := by
        show (if [c] = [32] then r else c :: r) = _
        rw [if_neg (by simpa using hc)]
      rw [e]
      exact ⟨strip_nm h4, h4, by simp⟩
theorem lp_ok : ∀ (n : Nat) {s : Tx}, Nm s → s.length < n → Nm (lp n s) ∧ (lp n s).take 3 ≠ reT ∧ (lp n s).length ≤ s.length ∧ ∀ c ∈ lp n s, c ∈ s
  | 0, s, _, h => by omega
  | n + 1, s, h, hl => by
    by_cases hr : s.take 3 = reT
    · obtain ⟨_, h2, h3⟩ := stp_ok h hr
      obtain ⟨i1, i2, i3, i4⟩ := lp_ok n h2 (by omega)
      simp only [lp, if_pos hr]
      refine ⟨i1, i2, by omega, fun c hc => ?_⟩
      have := i4 c hc
      unfold stp at this
      split at this
      · exact List.mem_of_mem_drop this
      · exact List.mem_of_mem_drop this
    · simp only [lp, if_neg hr]
      exact ⟨h, hr, Nat.le_refl _, fun _ z => z⟩
theorem lp_id {n : Nat} {s : Tx} (h : s.take 3 ≠ reT) : lp n s = s := by
  cases n with
  | zero => rfl
  | succ n => exact if_neg h
/-- the bare title -/
def bareL (x : Tx) : Tx := lp 1000 (nr false false x)
theorem bareL_ok {x : Tx} (h : x.length < 1000) : Nm (bareL x) ∧ (bareL x).take 3 ≠ reT ∧ (bareL x).length ≤ x.length ∧ ∀ c ∈ bareL x, c ∈ x ∨ c = 32 := by
  have hl := nr_len false false x
  simp at hl
  obtain ⟨h1, h2, h3, h4⟩ := lp_ok 1000 (nr_nm x) (by omega)
  exact ⟨h1, h2, by unfold bareL; omega, fun c hc => nr_mem _ _ _ c (h4 c hc)⟩
theorem bareL_idem {x : Tx} (h : x.length < 1000) : bareL (bareL x) = bareL x := by
  obtain ⟨h1, h2, _⟩ := bareL_ok h
  show lp 1000 (nr false false (bareL x)) = _
  rw [h1, lp_id h2]
theorem splitE (x : Tx) : joinT [32] ((splitL [32] x).filter neB) = nr false false x := by
  have := split_nr x []
  rw [if_pos rfl] at this
  exact this
theorem spl_len : ∀ (r acc : Tx), ((TL.spl [32] 0 acc r : List Tx).map (fun w : Tx => w.length)).sum + (TL.spl [32] 0 acc r : List Tx).length ≤ acc.length + r.length + r.length + 1
  | [], acc => by simp [TL.spl]
  | c :: r, acc => by
    by_cases hc : c = 32
    · subst hc
      have e : TL.spl [32] 0 acc (32 :: r) = acc :: TL.spl [32] 0 [] r := by simp [TL.spl, TL.pre]
      have := spl_len r []
      rw [e]
      simp at this ⊢
      omega
    · have e : TL.spl [32] 0 acc (c :: r) = TL.spl [32] 0 (acc ++ [c]) r := by simp [TL.spl, TL.pre, hc]
      have := spl_len r (acc ++ [c])
      rw [e]
      simp at this ⊢
      omega
theorem filter_len {p : Tx → Bool} : ∀ (ws : List Tx), ((ws.filter p).map (fun w : Tx => w.length)).sum + (ws.filter p).length ≤ (ws.map (fun w : Tx => w.length)).sum + ws.length
  | [] => by simp
  | w :: ws => by
    have := filter_len (p := p) ws
    cases h : p w
    · rw [List.filter_cons_of_neg (by simp [h])]
      simp
      omega
    · rw [List.filter_cons_of_pos h]
      simp
      omega
theorem bareOfE {x : Tx} (h : x.length < 1000) : c_bare_of [.str x] = .ok (.str (bareL x), true) := by
  unfold c_bare_of g_bare_of q_bare_of_1 y_bare_of_1 t_bare_of_1 b_bare_of_1
  have h1 : x.length ≤ 1000000 := by omega
  have hs : ([32] : Tx) ≠ [] ∧ ([32] : Tx).all (· < 256) = true ∧ x.length ≤ 1000000 := ⟨by decide, by decide, h1⟩
  have hc : compGo (stepC (.one 2) [some (.str x, .shr), none, none] (tOf (fBin gNe (fVar 2) (fC (.str [])))) (fVar 2)) ((splitL [32] x).map Dat.str) = .ok (((splitL [32] x).filter neB).map fun w => (⟨.str w, false, [], some []⟩ : Rs)) := by
    refine compGo_of fun w _ => ?_
    rw [e_step (e_bind1 (by simp))]
    simp only [pvs_Bare, Nat.reduceSub, Nat.reduceAdd, Nat.reduceLT, Nat.reduceLeDiff, Nat.reduceEqDiff, decide_true, decide_false, Bool.not_true, Bool.not_false, reduceCtorEq, eq_self, if_true, if_false]
    have e1 : (!decide (w = [])) = neB w := rfl
    rw [e1]
    cases neB w
    · simp only [pvs_Bare, Nat.reduceSub, Nat.reduceAdd, Nat.reduceLT, Nat.reduceLeDiff, Nat.reduceEqDiff, decide_true, decide_false, Bool.not_true, Bool.not_false, reduceCtorEq, eq_self, if_true, if_false]
      try rfl
    · simp only [pvs_Bare, Nat.reduceSub, Nat.reduceAdd, Nat.reduceLT, Nat.reduceLeDiff, Nat.reduceEqDiff, decide_true, decide_false, Bool.not_true, Bool.not_false, reduceCtorEq, eq_self, if_true, if_false, if_true]
  have hl0 := spl_len x []
  have hl1 := filter_len (p := neB) (splitL [32] x)
  have hl2 : (((splitL [32] x).filter neB).map (fun w : Tx => w.length)).sum + ((splitL [32] x).filter neB).length ≤ 2001 := by
    unfold splitL at hl1 ⊢
    simp at hl0
    omega
  have hk := e_comp1 (l := []) (own := [2]) (E := [some (.str x, .shr), none, none]) hc (by
    rw [List.length_map]
    omega)
  have hj : (((splitL [32] x).filter neB).map (fun w : Tx => w.length)).sum + ((splitL [32] x).filter neB).length * ([32] : Tx).length ≤ 1000000 := by
    simp only [List.length_cons, List.length_nil, Nat.zero_add, Nat.mul_one]
    omega
  have hf : ((splitL [32] x).filter neB).map (fun x => Dat.str x) = ((splitL [32] x).filter neB).map Dat.str := rfl
  have hw : ∀ (n : Nat) (s : Tx), Nm s → s.length < n → s.length ≤ 1000000 → whileGo (tOf (fM1 gStartsW (fVar 1) (fC (.str [114, 101, 58])))) (sSet false 1 (fM1 gStrip (fSl (fVar 1) (oSome (fC (.int 3))) oNone) (fC (.str [32])))) n [some (.str x, .shr), some (.str s, .deep), none] = .ok (.nx [some (.str x, .shr), some (.str (lp n s), .deep), none]) := by
    intro n
    induction n with
    | zero => intro s _ h _; omega
    | succ n ih =>
      intro s hn hl hs
      rw [while_S]
      by_cases hr : s.take 3 = reT
      · obtain ⟨h2, h3, h4⟩ := stp_ok hn hr
        have e1 : (s.take 3 == [114, 101, 58]) = true := by simpa [reT] using hr
        have e2 : (s.drop (3 : Int).toNat).length ≤ 1000000 := by
          rw [List.length_drop]
          omega
        have e3 : (0 : Int) ≤ 3 := by decide
        have e4 : stripL (fun c => [32].contains c) (s.drop (3 : Int).toNat) = stp s := h2
        simp only [pvs_Bare, Nat.reduceSub, Nat.reduceAdd, Nat.reduceLT, Nat.reduceLeDiff, Nat.reduceEqDiff, decide_true, decide_false, Bool.not_true, Bool.not_false, reduceCtorEq, eq_self, if_true, if_false, e1, hs, e2, e3, e4]
        rw [ih _ h3 (by omega) (by omega)]
        simp only [lp, if_pos hr]
      · have e1 : (s.take 3 == [114, 101, 58]) = false := by simpa [reT] using hr
        simp only [pvs_Bare, Nat.reduceSub, Nat.reduceAdd, Nat.reduceLT, Nat.reduceLeDiff, Nat.reduceEqDiff, decide_true, decide_false, Bool.not_true, Bool.not_false, reduceCtorEq, eq_self, if_true, if_false, e1, lp, if_neg hr]
  have hnl := nr_len false false x
  simp at hnl
  simp only [pvs_Bare, Nat.reduceSub, Nat.reduceAdd, Nat.reduceLT, Nat.reduceLeDiff, Nat.reduceEqDiff, decide_true, decide_false, Bool.not_true, Bool.not_false, reduceCtorEq, eq_self, if_true, if_false, e_split (rt := false) (s := []) (m := some []) hs, hk, rComp_F, hf, e_join (rt := true) (s := []) (m := some []) hj, splitE]
  rw [hw 1000 _ (nr_nm x) (by omega) (by omega)]
  simp only [pvs_Bare, Nat.reduceSub, Nat.reduceAdd, Nat.reduceLT, Nat.reduceLeDiff, Nat.reduceEqDiff, decide_true, decide_false, Bool.not_true, Bool.not_false, reduceCtorEq, eq_self, if_true, if_false]
  rfl
theorem bareE {x : Tx} (h : x.length ≤ 12) (h2 : okT x) : c_bare [.str x] = .ok (.str (bareL x), true) := by
  unfold c_bare g_bare
  have h1 : (decide (x.length ≤ 12) && x.all okS) = true := by
    rw [decide_eq_true h, h2]
    rfl
  have e1 : c_is_title [.str x] = .ok (.bl true, true) := by
    rw [isTitleE (by omega), h1]
  have e2 := bareOfE (x := x) (by omega)
  simp only [pvs_Bare, Nat.reduceSub, Nat.reduceAdd, Nat.reduceLT, Nat.reduceLeDiff, Nat.reduceEqDiff, decide_true, decide_false, Bool.not_true, Bool.not_false, reduceCtorEq, eq_self, if_true, if_false, e1, e2]
/-! ### the law's own reading -/
def stepL (f : Tx) (c : Nat) : Tx := if c ≠ 32 ∨ ¬ (f = [] ∨ f.getLast? = some 32) then f ++ [c] else f
def finL (f : Tx) : Tx := if f.drop (f.length - 1) = [32] then f.take (f.length - 1) else f
theorem drop_last (f : Tx) : f.drop (f.length - 1) = match f.getLast? with
    | some c => [c]
    | none => [] := by
  rcases List.eq_nil_or_concat f with rfl | ⟨g, c, rfl⟩
  · rfl
  · simp
def EndA (f : Tx) : Prop := ∃ g c, f = g ++ [c] ∧ c ≠ 32
theorem fold_nr : ∀ (r f : Tx), (f = [] → finL (r.foldl stepL f) = nr false false r) ∧ (EndA f → finL (r.foldl stepL f) = f ++ nr true false r) ∧ (∀ g, EndA g → f = g ++ [32] → finL (r.foldl stepL f) = g ++ nr true true r)
  | [], f => by
    refine ⟨fun h => ?_, fun ⟨g, c, e, hc⟩ => ?_, fun g ⟨g', c, e, hc⟩ e2 => ?_⟩
    · subst h
      rfl
    · subst e
      simp [finL, nr, hc]
    · subst e2
      simp [finL, nr]
  | c :: r, f => by
    rw [List.foldl_cons]
    obtain ⟨h1, h2, h3⟩ := fold_nr r (stepL f c)
    refine ⟨fun h => ?_, fun ⟨g, b, e, hb⟩ => ?_, fun g ⟨g', b, e, hb⟩ e2 => ?_⟩
    · subst h
      by_cases hc : c = 32
      · subst hc
        rw [nr_sp, nr_f true r]
        exact h1 rfl
      · have e : stepL [] c = [c] := by simp [stepL, hc]
        rw [e] at h2 ⊢
        rw [h2 ⟨[], c, rfl, hc⟩, nr_c _ _ hc]
        rfl
    · by_cases hc : c = 32
      · subst hc
        have e3 : stepL f 32 = f ++ [32] := by
          subst e
          simp [stepL, hb]
        rw [nr_sp]
        exact h3 f ⟨g, b, e, hb⟩ e3
      · have e3 : stepL f c = f ++ [c] := by simp [stepL, hc]
        rw [e3] at h2 ⊢
        rw [h2 ⟨f, c, rfl, hc⟩, nr_tf _ hc]
        simp
    · by_cases hc : c = 32
      · subst hc
        have e3 : stepL f 32 = f := by
          subst e2
          simp [stepL]
        rw [nr_sp]
        exact h3 g ⟨g', b, e, hb⟩ (by rw [e3, e2])
      · have e3 : stepL f c = f ++ [c] := by simp [stepL, hc]
        rw [e3] at h2 ⊢
        rw [h2 ⟨f, c, rfl, hc⟩, nr_tt _ hc, e2]
        simp
theorem foldE (x : Tx) : finL (x.foldl stepL []) = nr false false x := (fold_nr x []).1 rfl
theorem fold_len : ∀ (r f : Tx), (r.foldl stepL f).length ≤ f.length + r.length
  | [], f => by simp
  | c :: r, f => by
    rw [List.foldl_cons]
    have := fold_len r (stepL f c)
    have h2 : (stepL f c).length ≤ f.length + 1 := by
      unfold stepL
      split <;> simp
    simp
    omega
theorem lawBareE {x : Tx} (h : x.length ≤ 12) : c__law_bare [.str x] = .ok (.str (bareL x), true) := by
  unfold c__law_bare g__law_bare b__law_bare_1 t__law_bare_1 b__law_bare_2
  have hfor : ∃ x2, forGo (.one 2) (sIf (tOr' (tOf (fBin gNe (fVar 2) (fC (.str [32])))) (tOf (fBin (gIn true) (fSl (fVar 1) (oSome (fNeg (fC (.int 1)))) oNone) (fTup (aCons (fC (.str [])) (aCons (fC (.str [32])) aNil)))))) (sSet false 1 (fBin gAdd (fVar 1) (fVar 2))) sNil) (x.map fun c => Dat.str [c]) [some (.str x, .shr), some (.str [], .deep), none] = .ok (.nx [some (.str x, .shr), some (.str (x.foldl stepL []), .deep), x2]) := by
    have hinv := forGo_inv (T := .one 2) (g := (sIf (tOr' (tOf (fBin gNe (fVar 2) (fC (.str [32])))) (tOf (fBin (gIn true) (fSl (fVar 1) (oSome (fNeg (fC (.int 1)))) oNone) (fTup (aCons (fC (.str [])) (aCons (fC (.str [32])) aNil)))))) (sSet false 1 (fBin gAdd (fVar 1) (fVar 2))) sNil))
      (fun ds E => ∃ (r f : Tx) (x2 : Option (Dat × Kd)), ds = r.map (fun c => Dat.str [c]) ∧ E = [some (.str x, .shr), some (.str f, .deep), x2] ∧ r.foldl stepL f = x.foldl stepL [] ∧ f.length + r.length ≤ 12) (ds := x.map fun c => Dat.str [c]) (E := [some (.str x, .shr), some (.str [], .deep), none]) ⟨x, [], none, rfl, rfl, rfl, by simpa using h⟩ ?st
    case st =>
      rintro d rest E ⟨r, f, x2, e1, rfl, e3, e4⟩
      cases r with
      | nil => cases e1
      | cons c r =>
        injection e1 with ed er
        subst ed er
        refine ⟨_, _, e_bind1 (by simp), .inl ?_, r, stepL f c, some (.str [c], .shr), rfl, rfl, e3, ?_⟩
        · have e5 : ([c] = [32]) = (c = 32) := by simp
          have l1 : f.length ≤ 1000000 := by simp at e4; omega
          have l2 : f.length + ([c] : Tx).length ≤ 1000000 := by simp at e4 ⊢; omega
          have en : -(1 : Int) = -1 := rfl
          have a1 : anyEq (.str (f.drop (f.length - 1))) [.str [], .str [32]] = .ok (decide (f = [] ∨ f.getLast? = some 32)) := by
            have := anyEq_s (x := f.drop (f.length - 1)) (ys := [[], [32]])
            simp only [List.map_cons, List.map_nil] at this
            rw [this, drop_last]
            rcases List.eq_nil_or_concat f with rfl | ⟨g, b, rfl⟩
            · rfl
            · simp
          by_cases hc : c = 32
          · subst hc
            have l3 : (2 : Nat) ≤ 1000000 := by decide
            by_cases h5 : f = [] ∨ f.getLast? = some 32
            · have e6 : stepL f 32 = f := by simp [stepL, h5]
              simp only [pvs_Bare, Nat.reduceSub, Nat.reduceAdd, Nat.reduceLT, Nat.reduceLeDiff, Nat.reduceEqDiff, decide_true, decide_false, Bool.not_true, Bool.not_false, reduceCtorEq, eq_self, if_true, if_false, eq_self, l1, l3, en, a1, h5, e6]
            · have e6 : stepL f 32 = f ++ [32] := by
                unfold stepL
                rw [if_pos (.inr h5)]
              simp only [pvs_Bare, Nat.reduceSub, Nat.reduceAdd, Nat.reduceLT, Nat.reduceLeDiff, Nat.reduceEqDiff, decide_true, decide_false, Bool.not_true, Bool.not_false, reduceCtorEq, eq_self, if_true, if_false, eq_self, l1, l2, l3, en, a1, h5, e6, e_add_s (rt := false) (rt' := false) (s := []) (s' := []) (m := some []) (m' := some []) l2]
          · have e6 : stepL f c = f ++ [c] := by simp [stepL, hc]
            simp only [pvs_Bare, Nat.reduceSub, Nat.reduceAdd, Nat.reduceLT, Nat.reduceLeDiff, Nat.reduceEqDiff, decide_true, decide_false, Bool.not_true, Bool.not_false, reduceCtorEq, eq_self, if_true, if_false, e5, hc, e6, e_add_s (rt := false) (rt' := false) (s := []) (s' := []) (m := some []) (m' := some []) l2]
        · have : (stepL f c).length ≤ f.length + 1 := by
            unfold stepL
            split <;> simp
          simp at e4
          omega
    obtain ⟨E', h1, r, f, x2, e1, e2, e3, _⟩ := hinv
    cases r with
    | nil => exact ⟨x2, by rw [h1, e2]; simp only [List.foldl_nil] at e3; rw [e3]⟩
    | cons c r => cases e1
  obtain ⟨x2, hfor⟩ := hfor
  have hw : ∀ (n : Nat) (s : Tx), Nm s → s.length < n → s.length ≤ 1000000 → whileGo (tOf (fBin gEq (fSl (fVar 1) oNone (oSome (fC (.int 3)))) (fC (.str [114, 101, 58])))) (sSet false 1 (fIf (tOf (fBin gEq (fSl (fVar 1) (oSome (fC (.int 3))) (oSome (fC (.int 4)))) (fC (.str [32])))) (fSl (fVar 1) (oSome (fC (.int 4))) oNone) (fSl (fVar 1) (oSome (fC (.int 3))) oNone))) n [some (.str x, .shr), some (.str s, .deep), x2] = .ok (.nx [some (.str x, .shr), some (.str (lp n s), .deep), x2]) := by
    intro n
    induction n with
    | zero => intro s _ h _; omega
    | succ n ih =>
      intro s hn hl hs
      rw [while_S]
      have e3 : (0 : Int) ≤ 3 := by decide
      have e4 : (0 : Int) ≤ 4 := by decide
      have t3 : (3 : Int).toNat = 3 := rfl
      have t4 : (4 : Int).toNat = 4 := rfl
      by_cases hr : s.take 3 = reT
      · obtain ⟨_, h3, h4⟩ := stp_ok hn hr
        have hr' : s.take 3 = [114, 101, 58] := hr
        by_cases h5 : (s.drop 3).take 1 = [32]
        · have e5 : stp s = s.drop 4 := if_pos h5
          simp only [pvs_Bare, Nat.reduceSub, Nat.reduceAdd, Nat.reduceLT, Nat.reduceLeDiff, Nat.reduceEqDiff, decide_true, decide_false, Bool.not_true, Bool.not_false, reduceCtorEq, eq_self, if_true, if_false, hs, e3, e4, t3, t4, hr', h5]
          rw [← e5, ih _ h3 (by omega) (by omega)]
          simp only [lp, if_pos hr]
        · have e5 : stp s = s.drop 3 := if_neg h5
          simp only [pvs_Bare, Nat.reduceSub, Nat.reduceAdd, Nat.reduceLT, Nat.reduceLeDiff, Nat.reduceEqDiff, decide_true, decide_false, Bool.not_true, Bool.not_false, reduceCtorEq, eq_self, if_true, if_false, hs, e3, e4, t3, t4, hr', h5]
          rw [← e5, ih _ h3 (by omega) (by omega)]
          simp only [lp, if_pos hr]
      · have hr' : ¬ s.take 3 = [114, 101, 58] := hr
        simp only [pvs_Bare, Nat.reduceSub, Nat.reduceAdd, Nat.reduceLT, Nat.reduceLeDiff, Nat.reduceEqDiff, decide_true, decide_false, Bool.not_true, Bool.not_false, reduceCtorEq, eq_self, if_true, if_false, hs, e3, t3, hr', lp, if_neg hr]
  have hnl := nr_len false false x
  simp at hnl
  have hfl := fold_len x []
  simp at hfl
  have l0 : x.length ≤ 1000000 := by omega
  have l1 : (x.foldl stepL []).length ≤ 1000000 := by omega
  have en : -(1 : Int) = -1 := rfl
  by_cases h6 : (x.foldl stepL []).drop ((x.foldl stepL []).length - 1) = [32]
  · have e7 : (x.foldl stepL []).take ((x.foldl stepL []).length - 1) = nr false false x := by
      rw [← foldE]
      exact (if_pos h6).symm
    simp only [pvs_Bare, Nat.reduceSub, Nat.reduceAdd, Nat.reduceLT, Nat.reduceLeDiff, Nat.reduceEqDiff, decide_true, decide_false, Bool.not_true, Bool.not_false, reduceCtorEq, eq_self, if_true, if_false, l0, hfor, l1, en, h6, e7]
    rw [hw 1000 _ (nr_nm x) (by omega) (by omega)]
    simp only [pvs_Bare, Nat.reduceSub, Nat.reduceAdd, Nat.reduceLT, Nat.reduceLeDiff, Nat.reduceEqDiff, decide_true, decide_false, Bool.not_true, Bool.not_false, reduceCtorEq, eq_self, if_true, if_false]
    rfl
  · have e7 : x.foldl stepL [] = nr false false x := by
      have e8 := foldE x
      unfold finL at e8
      rwa [if_neg h6] at e8
    simp only [pvs_Bare, Nat.reduceSub, Nat.reduceAdd, Nat.reduceLT, Nat.reduceLeDiff, Nat.reduceEqDiff, decide_true, decide_false, Bool.not_true, Bool.not_false, reduceCtorEq, eq_self, if_true, if_false, l0, hfor, l1, en, h6]
    rw [e7, hw 1000 _ (nr_nm x) (by omega) (by omega)]
    simp only [pvs_Bare, Nat.reduceSub, Nat.reduceAdd, Nat.reduceLT, Nat.reduceLeDiff, Nat.reduceEqDiff, decide_true, decide_false, Bool.not_true, Bool.not_false, reduceCtorEq, eq_self, if_true, if_false]
    rfl
end PV

/-! letters -/
namespace PV
open PySem PySem.Spec L2
def pvs_Let := And.intro @e_bok <| And.intro @e_bexc <| And.intro @fin_rt <| And.intro @fin_nx <| And.intro @fin_exc <| And.intro @run1 <| And.intro @run2 <| And.intro @run3 <| And.intro @run4 <| And.intro @e_seq <| And.intro @e_seq_nx <| And.intro @e_seq_rt <| And.intro @e_seq_bk <| And.intro @e_seq_ct <| And.intro @e_nil <| And.intro @e_pass <| And.intro @e_brk <| And.intro @e_cnt <| And.intro @e_retN <| And.intro @e_raise <| And.intro @e_drop <| And.intro @e_drop1 <| And.intro @e_ret <| And.intro @take_flat <| And.intro @e_ret_deep <| And.intro @e_ret_one <| And.intro @e_ret_none <| And.intro @e_if <| And.intro @e_if_t <| And.intro @e_if_f <| And.intro @e_set <| And.intro @e_set_deep <| And.intro @e_set_none <| And.intro @e_down_nil <| And.intro @e_wipe_nil <| And.intro @e_wipe <| And.intro @e_c <| And.intro @e_slot0 <| And.intro @e_slotS <| And.intro @e_var <| And.intro @e_var1 <| And.intro @e_rv_int <| And.intro @e_rv_str <| And.intro @e_rv_bl <| And.intro @e_rv_non <| And.intro @e_rv_lstD <| And.intro @e_rv_lstR <| And.intro @e_rv_lstS <| And.intro @e_rv_dicD <| And.intro @e_rv_dicR <| And.intro @e_rv_dicS <| And.intro @e_bin <| And.intro @e_bin1 <| And.intro @e_one <| And.intro @e_tOf <| And.intro @e_toB <| And.intro @e_tNot <| And.intro @e_tNot1 <| And.intro @e_tAnd <| And.intro @e_tOr <| And.intro @e_tAnd_t <| And.intro @e_tAnd_f <| And.intro @e_tOr_t <| And.intro @e_tOr_f <| And.intro @e_and <| And.intro @e_or <| And.intro @e_and_t <| And.intro @e_and_f <| And.intro @e_or_t <| And.intro @e_or_f <| And.intro @e_not <| And.intro @e_not1 <| And.intro @e_neg <| And.intro @e_neg1 <| And.intro @e_ife <| And.intro @e_ife_t <| And.intro @e_ife_f <| And.intro @e_aNil <| And.intro @e_aCons <| And.intro @e_aCons1 <| And.intro @e_aCons2 <| And.intro @e_tup <| And.intro @e_lst <| And.intro @e_tup1 <| And.intro @e_lst1 <| And.intro @e_src0 <| And.intro @e_srcS <| And.intro @e_mv0 <| And.intro @e_mvS <| And.intro @e_mvN <| And.intro @e_mvC <| And.intro @e_mvC0 <| And.intro @e_add_i <| And.intro @e_add_s <| And.intro @e_add_l <| And.intro @e_sub <| And.intro @e_mod <| And.intro @e_fdv <| And.intro @e_mul <| And.intro @e_mul_s <| And.intro @e_pow18 <| And.intro @e_lt <| And.intro @e_le <| And.intro @e_gt <| And.intro @e_ge <| And.intro @e_eq <| And.intro @e_ne <| And.intro @e_eq1 <| And.intro @e_ne1 <| And.intro @eqF_s <| And.intro @eqF_i <| And.intro @eqF_b <| And.intro @eqF_ln <| And.intro @eqF_rn <| And.intro @e_in_s <| And.intro @e_in_l <| And.intro @e_in_r <| And.intro @e_in_t <| And.intro @e_in_d <| And.intro @e_in1 <| And.intro @e_rsB_f <| And.intro @e_rsB_t <| And.intro @e_pick_s <| And.intro @e_pick_i <| And.intro @e_pick_b <| And.intro @e_pick_l <| And.intro @e_pick_d <| And.intro @e_subs_l <| And.intro @e_subs_r <| And.intro @e_subs_t <| And.intro @e_subs_s <| And.intro @e_subs_d <| And.intro @e_subs1 <| And.intro @e_subsS <| And.intro @e_oNone <| And.intro @e_oSome <| And.intro @e_oSome1 <| And.intro @e_sl <| And.intro @e_sl1 <| And.intro @e_sl2 <| And.intro @e_sl_s <| And.intro @e_sl_l <| And.intro @e_sl_r <| And.intro @e_newL <| And.intro @e_newN <| And.intro @e_len_l <| And.intro @e_len_r <| And.intro @e_len_t <| And.intro @e_len_d <| And.intro @e_len_s <| And.intro @e_sum <| And.intro @e_all <| And.intro @e_any <| And.intro @e_m1 <| And.intro @e_m11 <| And.intro @e_startsw <| And.intro @e_strip <| And.intro @e_lstrip <| And.intro @e_split <| And.intro @e_join <| And.intro @e_iOf <| And.intro @e_it_l <| And.intro @e_it_r <| And.intro @e_it_t <| And.intro @e_it_s <| And.intro @e_range1 <| And.intro @e_rg1 <| And.intro @e_for <| And.intro @e_for1 <| And.intro @e_tTrue <| And.intro @e_step <| And.intro @e_step_t <| And.intro @e_step_f <| And.intro @e_step2 <| And.intro @e_bind1 <| And.intro @e_call <| And.intro @e_call1 <| And.intro @e_call_s <| And.intro @e_call_i <| And.intro @e_call_b <| And.intro @e_call_n <| And.intro @e_call_l <| And.intro @e_call_d <| And.intro @e_isi_s <| And.intro @e_cut_hi <| And.intro @e_cut_lo <| And.intro @e_cut_mid <| And.intro @e_cut_last <| And.intro @e_cut_init <| And.intro @e_rv_rol <| And.intro @e_par <| And.intro @e_par2 <| And.intro @e_par3 <| And.intro @e_wh1_t <| And.intro @e_wh1_f <| And.intro @e_wh2_nx <| And.intro @e_wh2_ct <| And.intro @e_wh2_bk <| And.intro @e_wh2_rt <| And.intro @e_sorted_s <| And.intro @e_list_d <| And.intro @e_sorted_t <| And.intro @e_sortSet_s <| And.intro @e_lenSet_s <| And.intro @e_min_s <| And.intro @e_max_i <| And.intro @e_chain <| And.intro @e_chain1 <| And.intro @e_chain2 <| And.intro @e_chain_t <| And.intro @e_chain_f <| And.intro @e_isi_l <| And.intro @e_isi_t <| And.intro @e_isi_ss <| And.intro @e_rv_tupF <| And.intro @e_rv_tupS <| And.intro @e_rv_tupD <| And.intro @e_pick_tF <| And.intro @e_pick_tS <| And.intro @e_call_tF <| And.intro @e_call_lS <| And.intro @e_flat0 <| And.intro @e_flat_s <| And.intro @e_flat_i <| And.intro @e_flat_b <| And.intro @e_flat_n <| And.intro @e_flat_l <| And.intro @e_newLs <| And.intro @e_newLi <| And.intro @e_at0 <| And.intro @e_at1 <| And.intro @e_at2 <| And.intro @e_at3 <| And.intro @e_atL <| And.intro @e_subs_map <| And.intro @e_put <| And.intro @e_get2 <| And.intro @e_lm <| And.intro @e_lidx <| And.intro @e_lcnt <| And.intro @e_max2 <| And.intro @e_cont <| And.intro @e_any_ss <| And.intro @e_in_ss <| And.intro @e_in_dd <| And.intro @e_rev_l <| And.intro @e_list_l <| And.intro @e_ne0 <| And.intro @e_dic0 <| And.intro @e_down_cons <| And.intro @e_down_some <| And.intro @e_down_none <| And.intro @e_unp <| And.intro @e_unp2 <| And.intro @e_unp3 <| And.intro @e_keys <| And.intro @e_bindL0 <| And.intro @e_bindLS <| And.intro @List.length_cons.{0} <| And.intro @List.length_map.{0,0} <| And.intro @List.length_nil.{0} <| And.intro @List.map_cons.{0,0} <| And.intro @List.map_nil.{0,0} <| And.intro @List.replicate_succ.{0} <| And.intro @List.replicate_zero.{0} <| And.intro @List.set_cons_zero.{0} <| And.intro @List.set_cons_succ.{0} <| And.intro @List.cons_append.{0} <| And.intro @List.nil_append.{0} <| And.intro @List.append_nil.{0} <| And.intro @Nat.zero_add <| And.intro @Nat.add_zero <| And.intro @Nat.zero_lt_succ <| And.intro @Nat.lt_add_left_iff_pos <| @Nat.succ_pos
/-! ### names -/
def nmB (x : Tx) : Bool := decide (1 ≤ x.length) && (decide (x.length ≤ 3) && x.all fun c => decide (c ∈ alph))
theorem isNameE {x : Tx} (h : x.length ≤ 1000000) : c_is_name [.str x] = .ok (.bl (nmB x), true) := by
  unfold c_is_name g_is_name
  obtain ⟨s, hc⟩ := comp_flat0 (T := .one 1) (own := [1]) (fi := iOf (fVar 0)) (fe := y_is_name_1) (E := [some (.str x, .shr), none]) (xs := x) (e := fun c => Dat.str [c]) (l := []) (fun c => .bl (decide (c ∈ alph))) rfl h (fun c _ => ⟨_, rfl, false, [], rfl⟩)
  by_cases h1 : (1 : Int) ≤ (x.length : Int)
  · have h1' : decide (1 ≤ x.length) = true := decide_eq_true (by omega)
    by_cases h2 : (x.length : Int) ≤ 3
    · have h2' : decide (x.length ≤ 3) = true := decide_eq_true (by omega)
      simp only [pvs_Let, Nat.reduceSub, Nat.reduceAdd, Nat.reduceLT, Nat.reduceLeDiff, Nat.reduceEqDiff, decide_true, decide_false, Bool.not_true, Bool.not_false, reduceCtorEq, eq_self, if_true, if_false, h, h1, h2, hc, gAll_F, nmB, h1', h2', Bool.true_and]
    · have h2' : decide (x.length ≤ 3) = false := decide_eq_false (by omega)
      simp only [pvs_Let, Nat.reduceSub, Nat.reduceAdd, Nat.reduceLT, Nat.reduceLeDiff, Nat.reduceEqDiff, decide_true, decide_false, Bool.not_true, Bool.not_false, reduceCtorEq, eq_self, if_true, if_false, h, h1, h2, nmB, h1', h2', Bool.true_and, Bool.false_and]
  · have h1' : decide (1 ≤ x.length) = false := decide_eq_false (by omega)
    simp only [pvs_Let, Nat.reduceSub, Nat.reduceAdd, Nat.reduceLT, Nat.reduceLeDiff, Nat.reduceEqDiff, decide_true, decide_false, Bool.not_true, Bool.not_false, reduceCtorEq, eq_self, if_true, if_false, h, h1, nmB, h1', Bool.false_and]
def nmOk (x : Tx) : Prop := nmB x = true
theorem nmOk.le {x : Tx} (h : nmOk x) : 1 ≤ x.length ∧ x.length ≤ 3 ∧ ∀ c ∈ x, c ∈ alph := by
  unfold nmOk nmB at h
  simp only [Bool.and_eq_true, decide_eq_true_eq, List.all_eq_true] at h
  exact h
theorem nmOk.ne {x : Tx} (h : nmOk x) : x ≠ [] := fun z => by
  have := h.le.1
  rw [z] at this
  simp at this
/-! ### letters -/
structure Letter where
  nm : Tx
  ans : List Tx
  ttl : Tx
def ltD (l : Letter) : Dat := .tup [.str l.nm, .lst (l.ans.map .str), .str l.ttl]
def ltsD (ls : List Letter) : Dat := .lst (ls.map ltD)
structure LtOk (l : Letter) : Prop where
  nm : nmOk l.nm
  ttl : l.ttl.length ≤ 12
  sgn : okT l.ttl
  few : l.ans.length ≤ 4
  ans : ∀ a ∈ l.ans, nmOk a
  nod : l.ans.Nodup
  own : l.nm ∉ l.ans
structure LtsOk (ls : List Letter) : Prop where
  len : ls.length ≤ 9
  nod : (ls.map (·.nm)).Nodup
  all : ∀ l ∈ ls, LtOk l
theorem e_rv_ltS {i : Nat} {l : Letter} : rVar i (ltD l) .shr = ⟨ltD l, false, [i], none⟩ := (rfl)
theorem e_lt_subs {l : Letter} {rt rt' : Bool} {s s' : List Nat} {m m' : Option (List Nat)} : gSubs ⟨ltD l, rt, s, m⟩ ⟨.int 0, rt', s', m'⟩ = .ok ⟨.str l.nm, false, [], some []⟩ := (rfl)
theorem isLetterE {l : Letter} (h : LtOk l) : c_is_letter [ltD l] = .ok (.bl true, true) := by
  have n1 := h.nm.le
  have n2 := h.ttl
  have n3 := h.few
  have q1 : c_is_name [.str l.nm] = .ok (.bl true, true) := by
    rw [isNameE (by omega)]
    rw [h.nm]
  have q2 : c_is_title [.str l.ttl] = .ok (.bl true, true) := by
    rw [isTitleE (by omega), decide_eq_true n2]
    rw [show l.ttl.all okS = true from h.sgn]
    rfl
  unfold c_is_letter g_is_letter
  obtain ⟨s, hc⟩ := comp_flat0 (T := .one 2) (own := [2]) (fi := iOf (fVar 1)) (fe := y_is_letter_1) (E := [some (ltD l, .shr), some (.lst (l.ans.map .str), .shr), none]) (xs := l.ans) (e := Dat.str) (l := [1]) (fun _ => .bl true) rfl (by omega) (fun a ha => ⟨_, rfl, false, [], by
    have q3 : c_is_name [.str a] = .ok (.bl true, true) := by
      have := (h.ans a ha).le
      rw [isNameE (by omega)]
      rw [h.ans a ha]
    unfold y_is_letter_1
    simp only [pvs_Let, Nat.reduceSub, Nat.reduceAdd, Nat.reduceLT, Nat.reduceLeDiff, Nat.reduceEqDiff, decide_true, decide_false, Bool.not_true, Bool.not_false, reduceCtorEq, eq_self, if_true, if_false, q3]⟩)
  have hg : ∀ {rt : Bool} {s : List Nat} {m : Option (List Nat)}, gAll ⟨.lst (l.ans.map fun _ => .bl true), rt, s, m⟩ = .ok ⟨.bl true, false, [], some []⟩ := by
    intro rt s m
    rw [gAll_F (f := fun _ => true)]
    simp
  have e4 : ((3 : Nat) : Int) = 3 := rfl
  have h4 : ¬ (4 : Int) < (l.ans.length : Int) := by omega
  have h5 : (nubT l.ans).length = l.ans.length := nubT_len_iff.mpr h.nod
  have h6 : l.ans.length ≤ 4000 := by omega
  unfold ltD at hc ⊢
  simp only [pvs_Let, Nat.reduceSub, Nat.reduceAdd, Nat.reduceLT, Nat.reduceLeDiff, Nat.reduceEqDiff, decide_true, decide_false, Bool.not_true, Bool.not_false, reduceCtorEq, eq_self, if_true, if_false, e4, q1, q2, eqF_i, hc, hg, h4, h5, h6, e_lenSet_s, e_in_ss, h.own, if_true, e_rv_tupS]
theorem checkE {ls : List Letter} (h : LtsOk ls) : c_check_letters [ltsD ls] = .ok (.non, true) := by
  have hl := h.len
  unfold c_check_letters g_check_letters ltsD
  obtain ⟨s, hc⟩ := comp_flat0 (T := .one 1) (own := [1]) (fi := iOf (fVar 0)) (fe := y_check_letters_1) (E := [some (.lst (ls.map ltD), .shr), none]) (xs := ls) (e := ltD) (l := [0]) (fun _ => .bl true) rfl (by omega) (fun l hl => ⟨_, rfl, false, [], by
    unfold y_check_letters_1
    simp only [pvs_Let, Nat.reduceSub, Nat.reduceAdd, Nat.reduceLT, Nat.reduceLeDiff, Nat.reduceEqDiff, decide_true, decide_false, Bool.not_true, Bool.not_false, reduceCtorEq, eq_self, if_true, if_false, e_rv_ltS, isLetterE (h.all l hl)]⟩)
  obtain ⟨s2, hc2⟩ := comp_flat0 (T := .one 1) (own := [1]) (fi := iOf (fVar 0)) (fe := y_check_letters_2) (E := [some (.lst (ls.map ltD), .shr), none]) (xs := ls) (e := ltD) (l := [0]) (fun l => .str l.nm) rfl (by omega) (fun l hl => ⟨_, rfl, false, [], by
    unfold y_check_letters_2
    simp only [pvs_Let, Nat.reduceSub, Nat.reduceAdd, Nat.reduceLT, Nat.reduceLeDiff, Nat.reduceEqDiff, decide_true, decide_false, Bool.not_true, Bool.not_false, reduceCtorEq, eq_self, if_true, if_false, e_rv_ltS, e_lt_subs]⟩)
  have hg : ∀ {rt : Bool} {s : List Nat} {m : Option (List Nat)}, gAll ⟨.lst (ls.map fun _ => .bl true), rt, s, m⟩ = .ok ⟨.bl true, false, [], some []⟩ := by
    intro rt s m
    rw [gAll_F (f := fun _ => true)]
    simp
  have h4 : ¬ (9 : Int) < (ls.length : Int) := by omega
  have hm : (ls.map fun l => Dat.str l.nm) = (ls.map (·.nm)).map .str := by rw [List.map_map]; rfl
  have h6 : (ls.map (·.nm)).length ≤ 4000 := by rw [List.length_map]; omega
  have h7 : (nubT (ls.map (·.nm))).length = ls.length := by
    have := nubT_len_iff.mpr h.nod
    rw [List.length_map] at this
    exact this
  have h8 : ¬ (ls.length : Int) < (ls.length : Int) := by omega
  rw [hm] at hc2
  simp only [pvs_Let, Nat.reduceSub, Nat.reduceAdd, Nat.reduceLT, Nat.reduceLeDiff, Nat.reduceEqDiff, decide_true, decide_false, Bool.not_true, Bool.not_false, reduceCtorEq, eq_self, if_true, if_false, hc, hc2, hg, h4, e_lenSet_s h6, h7, h8]
end PV

/-! the letters that a law makes of a script -/
namespace PV
open PySem PySem.Spec L2
def pvs_Cells := And.intro @e_bok <| And.intro @e_bexc <| And.intro @fin_rt <| And.intro @fin_nx <| And.intro @fin_exc <| And.intro @run1 <| And.intro @run2 <| And.intro @run3 <| And.intro @run4 <| And.intro @e_seq <| And.intro @e_seq_nx <| And.intro @e_seq_rt <| And.intro @e_seq_bk <| And.intro @e_seq_ct <| And.intro @e_nil <| And.intro @e_pass <| And.intro @e_brk <| And.intro @e_cnt <| And.intro @e_retN <| And.intro @e_raise <| And.intro @e_drop <| And.intro @e_drop1 <| And.intro @e_ret <| And.intro @take_flat <| And.intro @e_ret_deep <| And.intro @e_ret_one <| And.intro @e_ret_none <| And.intro @e_if <| And.intro @e_if_t <| And.intro @e_if_f <| And.intro @e_set <| And.intro @e_set_deep <| And.intro @e_set_none <| And.intro @e_down_nil <| And.intro @e_wipe_nil <| And.intro @e_wipe <| And.intro @e_c <| And.intro @e_slot0 <| And.intro @e_slotS <| And.intro @e_var <| And.intro @e_var1 <| And.intro @e_rv_int <| And.intro @e_rv_str <| And.intro @e_rv_bl <| And.intro @e_rv_non <| And.intro @e_rv_lstD <| And.intro @e_rv_lstR <| And.intro @e_rv_lstS <| And.intro @e_rv_dicD <| And.intro @e_rv_dicR <| And.intro @e_rv_dicS <| And.intro @e_bin <| And.intro @e_bin1 <| And.intro @e_one <| And.intro @e_tOf <| And.intro @e_toB <| And.intro @e_tNot <| And.intro @e_tNot1 <| And.intro @e_tAnd <| And.intro @e_tOr <| And.intro @e_tAnd_t <| And.intro @e_tAnd_f <| And.intro @e_tOr_t <| And.intro @e_tOr_f <| And.intro @e_and <| And.intro @e_or <| And.intro @e_and_t <| And.intro @e_and_f <| And.intro @e_or_t <| And.intro @e_or_f <| And.intro @e_not <| And.intro @e_not1 <| And.intro @e_neg <| And.intro @e_neg1 <| And.intro @e_ife <| And.intro @e_ife_t <| And.intro @e_ife_f <| And.intro @e_aNil <| And.intro @e_aCons <| And.intro @e_aCons1 <| And.intro @e_aCons2 <| And.intro @e_tup <| And.intro @e_lst <| And.intro @e_tup1 <| And.intro @e_lst1 <| And.intro @e_src0 <| And.intro @e_srcS <| And.intro @e_mv0 <| And.intro @e_mvS <| And.intro @e_mvN <| And.intro @e_mvC <| And.intro @e_mvC0 <| And.intro @e_add_i <| And.intro @e_add_s <| And.intro @e_add_l <| And.intro @e_sub <| And.intro @e_mod <| And.intro @e_fdv <| And.intro @e_mul <| And.intro @e_mul_s <| And.intro @e_pow18 <| And.intro @e_lt <| And.intro @e_le <| And.intro @e_gt <| And.intro @e_ge <| And.intro @e_eq <| And.intro @e_ne <| And.intro @e_eq1 <| And.intro @e_ne1 <| And.intro @eqF_s <| And.intro @eqF_i <| And.intro @eqF_b <| And.intro @eqF_ln <| And.intro @eqF_rn <| And.intro @e_in_s <| And.intro @e_in_l <| And.intro @e_in_r <| And.intro @e_in_t <| And.intro @e_in_d <| And.intro @e_in1 <| And.intro @e_rsB_f <| And.intro @e_rsB_t <| And.intro @e_pick_s <| And.intro @e_pick_i <| And.intro @e_pick_b <| And.intro @e_pick_l <| And.intro @e_pick_d <| And.intro @e_subs_l <| And.intro @e_subs_r <| And.intro @e_subs_t <| And.intro @e_subs_s <| And.intro @e_subs_d <| And.intro @e_subs1 <| And.intro @e_subsS <| And.intro @e_oNone <| And.intro @e_oSome <| And.intro @e_oSome1 <| And.intro @e_sl <| And.intro @e_sl1 <| And.intro @e_sl2 <| And.intro @e_sl_s <| And.intro @e_sl_l <| And.intro @e_sl_r <| And.intro @e_newL <| And.intro @e_newN <| And.intro @e_len_l <| And.intro @e_len_r <| And.intro @e_len_t <| And.intro @e_len_d <| And.intro @e_len_s <| And.intro @e_sum <| And.intro @e_all <| And.intro @e_any <| And.intro @e_m1 <| And.intro @e_m11 <| And.intro @e_startsw <| And.intro @e_strip <| And.intro @e_lstrip <| And.intro @e_split <| And.intro @e_join <| And.intro @e_iOf <| And.intro @e_it_l <| And.intro @e_it_r <| And.intro @e_it_t <| And.intro @e_it_s <| And.intro @e_range1 <| And.intro @e_rg1 <| And.intro @e_for <| And.intro @e_for1 <| And.intro @e_tTrue <| And.intro @e_step <| And.intro @e_step_t <| And.intro @e_step_f <| And.intro @e_step2 <| And.intro @e_bind1 <| And.intro @e_call <| And.intro @e_call1 <| And.intro @e_call_s <| And.intro @e_call_i <| And.intro @e_call_b <| And.intro @e_call_n <| And.intro @e_call_l <| And.intro @e_call_d <| And.intro @e_isi_s <| And.intro @e_cut_hi <| And.intro @e_cut_lo <| And.intro @e_cut_mid <| And.intro @e_cut_last <| And.intro @e_cut_init <| And.intro @e_rv_rol <| And.intro @e_par <| And.intro @e_par2 <| And.intro @e_par3 <| And.intro @e_wh1_t <| And.intro @e_wh1_f <| And.intro @e_wh2_nx <| And.intro @e_wh2_ct <| And.intro @e_wh2_bk <| And.intro @e_wh2_rt <| And.intro @e_sorted_s <| And.intro @e_list_d <| And.intro @e_sorted_t <| And.intro @e_sortSet_s <| And.intro @e_lenSet_s <| And.intro @e_min_s <| And.intro @e_max_i <| And.intro @e_chain <| And.intro @e_chain1 <| And.intro @e_chain2 <| And.intro @e_chain_t <| And.intro @e_chain_f <| And.intro @e_isi_l <| And.intro @e_isi_t <| And.intro @e_isi_ss <| And.intro @e_rv_tupF <| And.intro @e_rv_tupS <| And.intro @e_rv_tupD <| And.intro @e_pick_tF <| And.intro @e_pick_tS <| And.intro @e_call_tF <| And.intro @e_call_lS <| And.intro @e_flat0 <| And.intro @e_flat_s <| And.intro @e_flat_i <| And.intro @e_flat_b <| And.intro @e_flat_n <| And.intro @e_flat_l <| And.intro @e_newLs <| And.intro @e_newLi <| And.intro @e_at0 <| And.intro @e_at1 <| And.intro @e_at2 <| And.intro @e_at3 <| And.intro @e_atL <| And.intro @e_subs_map <| And.intro @e_put <| And.intro @e_get2 <| And.intro @e_lm <| And.intro @e_lidx <| And.intro @e_lcnt <| And.intro @e_max2 <| And.intro @e_cont <| And.intro @e_any_ss <| And.intro @e_in_ss <| And.intro @e_in_dd <| And.intro @e_rev_l <| And.intro @e_list_l <| And.intro @e_ne0 <| And.intro @e_dic0 <| And.intro @e_down_cons <| And.intro @e_down_some <| And.intro @e_down_none <| And.intro @e_unp <| And.intro @e_unp2 <| And.intro @e_unp3 <| And.intro @e_keys <| And.intro @e_bindL0 <| And.intro @e_bindLS <| And.intro @List.length_cons.{0} <| And.intro @List.length_map.{0,0} <| And.intro @List.length_nil.{0} <| And.intro @List.map_cons.{0,0} <| And.intro @List.map_nil.{0,0} <| And.intro @List.replicate_succ.{0} <| And.intro @List.replicate_zero.{0} <| And.intro @List.set_cons_zero.{0} <| And.intro @List.set_cons_succ.{0} <| And.intro @List.cons_append.{0} <| And.intro @List.nil_append.{0} <| And.intro @List.append_nil.{0} <| And.intro @Nat.zero_add <| And.intro @Nat.add_zero <| And.intro @Nat.zero_lt_succ <| And.intro @Nat.lt_add_left_iff_pos <| @Nat.succ_pos
/-- cells that a law may have -/
structure CellsOk (cs : List Int) : Prop where
  ne : 0 < cs.length
  le : cs.length ≤ 63
  bits : ∀ z ∈ cs, Builtin.Int.intBits z ≤ 1048576
theorem CellsOk.cell {cs : List Int} (h : CellsOk cs) {z : Int} (hz : z ∈ cs) : Builtin.Int.intBits z ≤ 2000000 := Nat.le_trans (h.bits z hz) (by decide)
theorem CellsOk.sumBy {cs : List Int} (h : CellsOk cs) {b : Nat} (hb : b < 1000) : Builtin.Int.intBits (cs.sum + b) ≤ 2000000 := by
  refine Nat.le_trans (PyProof.Rows.bits_add (bits_sum h.bits h.le) (bits_lit (n := 10) (z := (b : Int)) (by
    have : (2 : Nat) ^ 10 = 1024 := by decide
    omega))) ?_
  omega
theorem cells_ex {ns : List Int} (hl : ns.length ≤ 63) (hb : ∀ z ∈ ns, Builtin.Int.intBits z ≤ 1048576) : ∃ cs, CellsOk cs ∧ ∀ E : Sto, slot E 0 = some (.rol (ns.map .int), .shr) → fIf (tOf (fBin gNe (fVar 0) (fLst aNil))) (fSl (fVar 0) oNone (oSome (fC (.int 63)))) (fLst (aCons (fC (.int 5)) aNil)) E = .ok ⟨.lst (cs.map .int), true, [], some []⟩ := by
  cases ns with
  | nil =>
    refine ⟨[5], ⟨by decide, by decide, fun z hz => ?_⟩, fun E h => ?_⟩
    · have e : z = 5 := by simpa using hz
      subst e
      exact bits_lit (Nat.lt_trans (show (5 : Int).natAbs < 2 ^ 3 from by decide) (Nat.pow_lt_pow_right (by decide) (by decide)))
    · have e : Dat.rol (([] : List Int).map .int) = .rol [] := rfl
      have l0 : (0 : Nat) ≤ 1000000 := by decide
      have l1 : (1 : Nat) ≤ 1000000 := by decide
      have l2 : (0 : Nat) = 0 := rfl
      have e2 : rVar 0 (.rol []) .shr = ⟨.rol [], false, [], some []⟩ := rfl
      simp only [pvs_Cells, Nat.reduceSub, Nat.reduceAdd, Nat.reduceLT, Nat.reduceLeDiff, Nat.reduceEqDiff, decide_true, decide_false, Bool.not_true, Bool.not_false, reduceCtorEq, eq_self, if_true, if_false, h, l0, l1, l2, e2, eqF_rn]
  | cons n ns =>
    refine ⟨(n :: ns).take 63, ⟨by simp, by simp; omega, fun z hz => hb z (List.mem_of_mem_take hz)⟩, fun E h => ?_⟩
    have l0 : (0 : Nat) ≤ 1000000 := by decide
    have l1 : (n :: ns).length ≤ 1000000 := by omega
    have l2 : ¬ (n :: ns).length = 0 := by simp
    have l3 : ((n :: ns).map Dat.int).take (63 : Int).toNat = ((n :: ns).take 63).map Dat.int := by
      rw [List.map_take]
      rfl
    have l4 : (0 : Int) ≤ 63 := by decide
    generalize n :: ns = ms at h l1 l2 l3
    simp only [pvs_Cells, Nat.reduceSub, Nat.reduceAdd, Nat.reduceLT, Nat.reduceLeDiff, Nat.reduceEqDiff, decide_true, decide_false, Bool.not_true, Bool.not_false, reduceCtorEq, eq_self, if_true, if_false, h, l0, l1, l2, l3, l4, e_newL (flat_ints _)]
/-! ### names -/
def nms12 : List Tx := [[100], [100, 101], [102], [97], [101, 99], [99], [104], [104, 107, 99], [105], [109], [109, 106], [108]]
def rot (t c : Nat) : Nat := alph.getD ((c - 97 + t) % 26) 0
def nmsT (t : Nat) : List Tx := nms12.map fun w => w.map (rot t)
theorem nmsT_ok : ∀ t < 26, (nmsT t).Nodup ∧ ∀ w ∈ nmsT t, nmB w = true := by decide +kernel
theorem nmsT_len (t : Nat) : (nmsT t).length = 12 := rfl
theorem occ_alph : ∀ c ∈ alph, Builtin.Str.occurrences (mkS alph) (mkS [c]) 0 (mkS alph).length 1 = [c - 97] := by
  simp only [StrLaws.occ_eq]
  decide +kernel
theorem sidx_alph (c : Nat) (hc : c ∈ alph) (rt : Bool) (s : List Nat) (m : Option (List Nat)) : gSIdx alph ⟨.str [c], rt, s, m⟩ = .ok ⟨.int ((c - 97 : Nat) : Int), false, [], some []⟩ := by
  unfold gSIdx
  simp only [occ_alph c hc]
  rfl
theorem nms12_ok : ∀ w ∈ nms12, w.length ≤ 3 ∧ ∀ c ∈ w, c ∈ alph := by decide
theorem alph_at {j : Nat} (h : j < 26) : (ixN alph.length (j : Int)).bind (fun j => alph[j]?) = some (alph.getD j 0) := by
  unfold ixN
  have h2 : j < alph.length := h
  rw [if_pos (by omega), if_pos (by omega)]
  show alph[((j : Int)).toNat]? = _
  rw [Int.toNat_natCast, List.getElem?_eq_getElem h2, List.getD_eq_getElem?_getD, List.getElem?_eq_getElem h2]
  rfl
def LE (S : Dat) (by_ most : Nat) (cs : List Int) (fnd : Option (Dat × Kd)) (many : Nat) (kind : Int) (t : Nat) (nms x11 x12 x13 x14 x15 x16 x17 x18 x19 : Option (Dat × Kd)) : Sto :=
  [some (S, .shr), some (.int by_, .shr), some (.int most, .shr), some (.lst (cs.map .int), .deep), some (.int (cs.sum + by_), .deep), fnd, some (.int many, .deep), some (.int kind, .deep), some (.str alph, .deep), some (.int t, .deep), nms, x11, x12, x13, x14, x15, x16, x17, x18, x19]
theorem joinSgn : ∀ w : Tx, joinT [] (w.map fun c => [c]) = w
  | [] => rfl
  | [c] => rfl
  | c :: d :: w => by
    have ih := joinSgn (d :: w)
    show [c] ++ ([] ++ joinT [] ((d :: w).map fun c => [c])) = _
    rw [ih]
    rfl
theorem ll1 {S : Dat} {by_ most many t : Nat} {kind : Int} {cs : List Int} {fnd x12 x13 x14 x15 x16 x17 x18 x19 : Option (Dat × Kd)} (ht : t < 26) {xs : List Tx} (hx : xs.length ≤ 20) {w : Tx} (hw : w ∈ nms12) :
    b__law_letters_1 (LE S by_ most cs fnd many kind t (some (.lst (xs.map .str), .deep)) (some (.str w, .shr)) x12 x13 x14 x15 x16 x17 x18 x19) = .ok (.nx (LE S by_ most cs fnd many kind t (some (.lst ((xs ++ [w.map (rot t)]).map .str), .deep)) (some (.str w, .shr)) x12 x13 x14 x15 x16 x17 x18 x19)) := by
  obtain ⟨hw1, hw2⟩ := nms12_ok w hw
  obtain ⟨s, hc⟩ := comp_flat0 (T := .one 19) (own := [19]) (fi := iOf (fVar 11)) (fe := y__law_letters_1) (E := LE S by_ most cs fnd many kind t (some (.lst (xs.map .str), .deep)) (some (.str w, .shr)) x12 x13 x14 x15 x16 x17 x18 x19) (xs := w) (e := fun c => Dat.str [c]) (l := []) (fun c => .str [rot t c]) rfl (by omega) (fun c hc => ⟨_, rfl, false, [], by
    have h1 := sidx_alph c (hw2 c hc)
    have h2 : (c - 97 + t) % 26 < 26 := Nat.mod_lt _ (by decide)
    have h3 := alph_at h2
    have h4 : ((c - 97 : Nat) : Int) + (t : Int) = ((c - 97 + t : Nat) : Int) := by omega
    have h5 : ((c - 97 + t : Nat) : Int) % 26 = (((c - 97 + t) % 26 : Nat) : Int) := by omega
    have h6 : (0 : Int) < 26 := by decide
    have h7 : alph.length ≤ 1000000 := by decide
    unfold y__law_letters_1 LE
    simp only [pvs_Cells, Nat.reduceSub, Nat.reduceAdd, Nat.reduceLT, Nat.reduceLeDiff, Nat.reduceEqDiff, decide_true, decide_false, Bool.not_true, Bool.not_false, reduceCtorEq, eq_self, if_true, if_false, h1, h4, h6, h5, h3, h7]
    rfl⟩)
  have e1 : (w.map fun c => Dat.str [rot t c]) = ((w.map (rot t)).map fun c => [c]).map .str := by
    rw [List.map_map, List.map_map]
    rfl
  have e2 : (((w.map (rot t)).map fun c => [c]).map (fun w : Tx => w.length)).sum + ((w.map (rot t)).map fun c => [c]).length * ([] : Tx).length ≤ 1000000 := by
    have : (((w.map (rot t)).map fun c => [c]).map (fun w : Tx => w.length)).sum = w.length := by
      rw [List.map_map, List.map_map]
      have : ((fun w : Tx => w.length) ∘ fun c : Nat => [c]) ∘ rot t = fun _ => 1 := rfl
      rw [this]
      clear hw hw1 hw2 hc e1 this s
      induction w with
      | nil => rfl
      | cons a w ih => simp only [List.map_cons, List.sum_cons, ih, List.length_cons]; omega
    rw [this]
    simp
    omega
  rw [e1] at hc
  have hj : fM1 gJoin (fC (.str [])) (fComp (.one 19) [19] (iOf (fVar 11)) tTrue y__law_letters_1) (LE S by_ most cs fnd many kind t (some (.lst (xs.map .str), .deep)) (some (.str w, .shr)) x12 x13 x14 x15 x16 x17 x18 x19) = .ok ⟨.str (w.map (rot t)), false, [], some []⟩ := by
    rw [e_m1, e_c, e_bok, e_m11, hc, e_bok, e_join e2, joinSgn]
  unfold b__law_letters_1
  rw [app_ok (xs := xs.map .str) rfl (by rw [List.length_map]; omega) hj]
  unfold LE
  rw [List.map_append]
  rfl
/-- a place within the names -/
theorem nms_at {t : Nat} {z : Int} (h : 0 ≤ z) (h2 : z < 12) : ∃ o, (nmsT t)[z.toNat]? = some o ∧ o ∈ nmsT t ∧ dAt ((nmsT t).map .str) z = some (.str o) := by
  have h3 : z < (nmsT t).length := by rw [nmsT_len]; exact h2
  exact dAt_map h h3
theorem ll2 {S : Dat} {by_ most many t at_ turn : Nat} {kind n : Int} {cs : List Int} {fnd x11 x16 x17 x18 x19 : Option (Dat × Kd)} (hk : kind = 0 ∨ kind = 1 ∨ kind = 2 ∨ kind = 3) (hm : many ≤ 9) (ha : at_ < many) (htn : turn < 10) {A : List Tx} {na : Tx} (hna : (nmsT t)[at_]? = some na) (hA : A.length ≤ 4) :
    ∃ A' x16' x17', (A' = A ∨ ∃ o, A' = A ++ [o] ∧ o ∈ nmsT t ∧ o ≠ na ∧ o ∉ A ∧ A.length < 4) ∧
      b__law_letters_2 (LE S by_ most cs fnd many kind t (some (.lst ((nmsT t).map .str), .deep)) x11 (some (.int at_, .shr)) (some (.int n, .deep)) (some (.lst (A.map .str), .deep)) (some (.int turn, .shr)) x16 x17 x18 x19) =
        .ok (.nx (LE S by_ most cs fnd many kind t (some (.lst ((nmsT t).map .str), .deep)) x11 (some (.int at_, .shr)) (some (.int n, .deep)) (some (.lst (A'.map .str), .deep)) (some (.int turn, .shr)) x16' x17' x18 x19)) := by
  -- how wide
  have hw : ∃ wd : Int, 1 ≤ wd ∧ wd ≤ 12 ∧ ∀ x16 x17, fBin gAdd (fBin gSubs (fTup (aCons (fBin gAdd (fVar 6) (fC (.int 1))) (aCons (fBin gAdd (fVar 6) (fC (.int 2))) (aCons (fBin gMax2 (fC (.int 1)) (fVar 12)) (aCons (fC (.int 4)) aNil))))) (fVar 7)) (fC (.int 1)) (LE S by_ most cs fnd many kind t (some (.lst ((nmsT t).map .str), .deep)) x11 (some (.int at_, .shr)) (some (.int n, .deep)) (some (.lst (A.map .str), .deep)) (some (.int turn, .shr)) x16 x17 x18 x19) = .ok ⟨.int wd, false, [], some []⟩ := by
    rcases hk with rfl | rfl | rfl | rfl
    · refine ⟨(many : Int) + 1 + 1, by omega, by omega, fun x16 x17 => ?_⟩
      unfold LE
      simp only [pvs_Cells, Nat.reduceSub, Nat.reduceAdd, Nat.reduceLT, Nat.reduceLeDiff, Nat.reduceEqDiff, decide_true, decide_false, Bool.not_true, Bool.not_false, reduceCtorEq, eq_self, if_true, if_false, (by decide : (4 : Nat) ≤ 1000000)]
    · refine ⟨(many : Int) + 2 + 1, by omega, by omega, fun x16 x17 => ?_⟩
      unfold LE
      simp only [pvs_Cells, Nat.reduceSub, Nat.reduceAdd, Nat.reduceLT, Nat.reduceLeDiff, Nat.reduceEqDiff, decide_true, decide_false, Bool.not_true, Bool.not_false, reduceCtorEq, eq_self, if_true, if_false, (by decide : (4 : Nat) ≤ 1000000)]
    · refine ⟨(if (at_ : Int) > 1 then (at_ : Int) else 1) + 1, by split <;> omega, by split <;> omega, fun x16 x17 => ?_⟩
      unfold LE
      simp only [pvs_Cells, Nat.reduceSub, Nat.reduceAdd, Nat.reduceLT, Nat.reduceLeDiff, Nat.reduceEqDiff, decide_true, decide_false, Bool.not_true, Bool.not_false, reduceCtorEq, eq_self, if_true, if_false, (by decide : (4 : Nat) ≤ 1000000)]
    · refine ⟨4 + 1, by omega, by omega, fun x16 x17 => ?_⟩
      unfold LE
      simp only [pvs_Cells, Nat.reduceSub, Nat.reduceAdd, Nat.reduceLT, Nat.reduceLeDiff, Nat.reduceEqDiff, decide_true, decide_false, Bool.not_true, Bool.not_false, reduceCtorEq, eq_self, if_true, if_false, (by decide : (4 : Nat) ≤ 1000000)]
  obtain ⟨wd, w1, w2, hw⟩ := hw
  have i0 : (0 : Int) ≤ (n / 7 + (turn : Int) * (1 + n / 11 % 3)) % wd := Int.emod_nonneg _ (by omega)
  have i1 : (n / 7 + (turn : Int) * (1 + n / 11 % 3)) % wd < 12 := Int.lt_of_lt_of_le (Int.emod_lt_of_pos _ (by omega)) w2
  obtain ⟨o, ho1, ho2, ho3⟩ := nms_at (t := t) i0 i1
  have hn : dAt ((nmsT t).map .str) (at_ : Int) = some (.str na) := by
    obtain ⟨o', q1, q2, q3⟩ := nms_at (t := t) (z := (at_ : Int)) (by omega) (by omega)
    rw [Int.toNat_natCast, hna] at q1
    injection q1 with q1
    rw [q3, q1]
  have m1 : cMul (turn : Int) (1 + n / 11 % 3) = true := by
    have j0 : (0 : Int) ≤ n / 11 % 3 := Int.emod_nonneg _ (by decide)
    have j1 : n / 11 % 3 < 3 := Int.emod_lt_of_pos _ (by decide)
    exact cMul_of (bits_small (by omega)) (bits_small (by omega)) (by decide)
  have z1 : (0 : Int) < 7 := by decide
  have z2 : (7 : Int) < 1073741824 := by decide
  have z3 : (0 : Int) < 11 := by decide
  have z4 : (11 : Int) < 1073741824 := by decide
  have z5 : (0 : Int) < 3 := by decide
  have z6 : (0 : Int) < wd := by omega
  have hw' := hw x16 x17
  unfold b__law_letters_2
  unfold LE at hw' ⊢
  by_cases c1 : o = na
  · refine ⟨A, some (.int wd, .deep), some (.str o, .deep), .inl rfl, ?_⟩
    simp only [pvs_Cells, Nat.reduceSub, Nat.reduceAdd, Nat.reduceLT, Nat.reduceLeDiff, Nat.reduceEqDiff, decide_true, decide_false, Bool.not_true, Bool.not_false, reduceCtorEq, eq_self, if_true, if_false, ↓hw', z1, z2, z3, z4, z5, z6, m1, ho3, hn, c1]
  · by_cases c2 : o ∈ A
    · refine ⟨A, some (.int wd, .deep), some (.str o, .deep), .inl rfl, ?_⟩
      simp only [pvs_Cells, Nat.reduceSub, Nat.reduceAdd, Nat.reduceLT, Nat.reduceLeDiff, Nat.reduceEqDiff, decide_true, decide_false, Bool.not_true, Bool.not_false, reduceCtorEq, eq_self, if_true, if_false, ↓hw', z1, z2, z3, z4, z5, z6, m1, ho3, hn, c1, c2]
    · by_cases c3 : (A.length : Int) < 4
      · refine ⟨A ++ [o], some (.int wd, .deep), some (.str o, .deep), .inr ⟨o, rfl, ho2, c1, c2, by omega⟩, ?_⟩
        have ha := fun (E : Sto) (h : slot E 14 = some (.lst (A.map .str), .deep)) (h2 : fVar 17 E = .ok ⟨.str o, false, [], some []⟩) => app_ok (i := 14) (f := fVar 17) (E := E) (xs := A.map .str) (d := .str o) h (by rw [List.length_map]; omega) h2
        simp only [pvs_Cells, Nat.reduceSub, Nat.reduceAdd, Nat.reduceLT, Nat.reduceLeDiff, Nat.reduceEqDiff, decide_true, decide_false, Bool.not_true, Bool.not_false, reduceCtorEq, eq_self, if_true, if_false, ↓hw', z1, z2, z3, z4, z5, z6, m1, ho3, hn, c1, c2, c3]
        rw [ha _ rfl rfl, List.map_append]
        rfl
      · refine ⟨A, some (.int wd, .deep), some (.str o, .deep), .inl rfl, ?_⟩
        simp only [pvs_Cells, Nat.reduceSub, Nat.reduceAdd, Nat.reduceLT, Nat.reduceLeDiff, Nat.reduceEqDiff, decide_true, decide_false, Bool.not_true, Bool.not_false, reduceCtorEq, eq_self, if_true, if_false, ↓hw', z1, z2, z3, z4, z5, z6, m1, ho3, hn, c1, c2, c3]
def ttl8 : List Tx := [[120], [114, 101, 58, 32, 120], [], [121], [114, 101, 58, 114, 101, 58, 32, 32, 120, 32], [114, 101, 58], [32, 121], [114, 101, 58, 32, 114, 101, 58, 32, 32, 120, 32, 121]]
theorem ttl8_ok : ∀ p ∈ ttl8, p.length ≤ 1000 ∧ ∀ c ∈ alph, ((replT p [120] [c]).length ≤ 12 ∧ (replT p [120] [c]).all okS = true) := by
  unfold replT Txt.replace
  simp only [StrLaws.occ_eq]
  decide +kernel
theorem ll3 {S : Dat} {by_ most many t at_ : Nat} {kind : Int} {cs : List Int} (hc : CellsOk cs) (hb : by_ < 100) (ht : t < 26) {x11 x13 x14 x15 x16 x17 x18 x19 : Option (Dat × Kd)} (hk : kind = 0 ∨ kind = 1 ∨ kind = 2 ∨ kind = 3) (hm : many ≤ 9) (ha : at_ < many) {na : Tx} (hna : (nmsT t)[at_]? = some na) {ls : List Letter} (hls : ls.length ≤ 9) :
    ∃ l x13' x15' x16' x17' x18', LtOk l ∧ l.nm = na ∧ b__law_letters_3 (LE S by_ most cs (some (.lst (ls.map ltD), .deep)) many kind t (some (.lst ((nmsT t).map .str), .deep)) x11 (some (.int at_, .shr)) x13 x14 x15 x16 x17 x18 x19) =
      .ok (.nx (LE S by_ most cs (some (.lst ((ls ++ [l]).map ltD), .deep)) many kind t (some (.lst ((nmsT t).map .str), .deep)) x11 (some (.int at_, .shr)) x13' none x15' x16' x17' x18' x19)) := by
  obtain ⟨nok1, nok2⟩ := nmsT_ok t ht
  -- the number
  have hlen : (0 : Int) < (cs.length : Int) := by
    have := hc.ne
    omega
  have i0 : (0 : Int) ≤ ((at_ : Int) + (by_ : Int)) % (cs.length : Int) := Int.emod_nonneg _ (by omega)
  have i1 : ((at_ : Int) + (by_ : Int)) % (cs.length : Int) < (cs.length : Int) := Int.emod_lt_of_pos _ hlen
  obtain ⟨cell, _, hm1, hd⟩ := dAt_map (e := Dat.int) i0 i1
  have hnum := numE (a := cell) (b := (at_ : Int) + (by_ : Int)) (hc.cell hm1) (bits_small (by omega)) (hc.sumBy (b := by_) (by omega))
  generalize numL cell ((at_ : Int) + (by_ : Int)) (cs.sum + (by_ : Int)) = num at hnum
  have z1 : (0 : Int) < 3 := by decide
  have z2 : (3 : Int) < 1073741824 := by decide
  generalize hn : num / 3 = n
  have e1 : ∀ x13 x14 x15 x16 x17 x18, (fBin gFdv (fCall 3 c__law_number (aCons (fBin gSubs (fVar 3) (fBin gMod (fBin gAdd (fVar 12) (fVar 1)) (fOne gLen (fVar 3)))) (aCons (fBin gAdd (fVar 12) (fVar 1)) (aCons (fVar 4) aNil)))) (fC (.int 3))) (LE S by_ most cs (some (.lst (ls.map ltD), .deep)) many kind t (some (.lst ((nmsT t).map .str), .deep)) x11 (some (.int at_, .shr)) x13 x14 x15 x16 x17 x18 x19) = .ok ⟨.int n, false, [], some []⟩ := by
    intro x13 x14 x15 x16 x17 x18
    unfold LE
    simp only [pvs_Cells, Nat.reduceSub, Nat.reduceAdd, Nat.reduceLT, Nat.reduceLeDiff, Nat.reduceEqDiff, decide_true, decide_false, Bool.not_true, Bool.not_false, reduceCtorEq, eq_self, if_true, if_false, hlen, hd, hnum, z1, z2, hn]
  -- how many answers
  have e2 : ∃ k : Nat, k < 7 ∧ ∀ x14 x15 x16 x17 x18, (iRange1 (fBin gMod (fVar 13) (fBin gSubs (fTup (aCons (fC (.int 2)) (aCons (fC (.int 4)) (aCons (fC (.int 3)) (aCons (fC (.int 7)) aNil))))) (fVar 7)))) (LE S by_ most cs (some (.lst (ls.map ltD), .deep)) many kind t (some (.lst ((nmsT t).map .str), .deep)) x11 (some (.int at_, .shr)) (some (.int n, .deep)) x14 x15 x16 x17 x18 x19) = .ok ((List.range k).map (fun (i : Nat) => Dat.int i), []) := by
    have go : ∀ mm : Int, 0 < mm → mm ≤ 7 → ∃ k : Nat, k < 7 ∧ -1000000 ≤ n % mm ∧ n % mm ≤ 1000000 ∧ (n % mm).toNat = k := fun mm h1 h2 => by
      have j0 : (0 : Int) ≤ n % mm := Int.emod_nonneg _ (by omega)
      have j1 : n % mm < mm := Int.emod_lt_of_pos _ h1
      exact ⟨(n % mm).toNat, by omega, by omega, by omega, rfl⟩
    have l4 : (4 : Nat) ≤ 1000000 := by decide
    rcases hk with rfl | rfl | rfl | rfl
    · obtain ⟨k, k1, k2, k3, k4⟩ := go 2 (by decide) (by decide)
      refine ⟨k, k1, fun x14 x15 x16 x17 x18 => ?_⟩
      unfold LE
      simp only [pvs_Cells, Nat.reduceSub, Nat.reduceAdd, Nat.reduceLT, Nat.reduceLeDiff, Nat.reduceEqDiff, decide_true, decide_false, Bool.not_true, Bool.not_false, reduceCtorEq, eq_self, if_true, if_false, l4, (by decide : (0 : Int) < 2)]
      rw [e_rg1 ⟨k2, k3⟩, k4]
    · obtain ⟨k, k1, k2, k3, k4⟩ := go 4 (by decide) (by decide)
      refine ⟨k, k1, fun x14 x15 x16 x17 x18 => ?_⟩
      unfold LE
      simp only [pvs_Cells, Nat.reduceSub, Nat.reduceAdd, Nat.reduceLT, Nat.reduceLeDiff, Nat.reduceEqDiff, decide_true, decide_false, Bool.not_true, Bool.not_false, reduceCtorEq, eq_self, if_true, if_false, l4, (by decide : (0 : Int) < 4)]
      rw [e_rg1 ⟨k2, k3⟩, k4]
    · obtain ⟨k, k1, k2, k3, k4⟩ := go 3 (by decide) (by decide)
      refine ⟨k, k1, fun x14 x15 x16 x17 x18 => ?_⟩
      unfold LE
      simp only [pvs_Cells, Nat.reduceSub, Nat.reduceAdd, Nat.reduceLT, Nat.reduceLeDiff, Nat.reduceEqDiff, decide_true, decide_false, Bool.not_true, Bool.not_false, reduceCtorEq, eq_self, if_true, if_false, l4, (by decide : (0 : Int) < 3)]
      rw [e_rg1 ⟨k2, k3⟩, k4]
    · obtain ⟨k, k1, k2, k3, k4⟩ := go 7 (by decide) (by decide)
      refine ⟨k, k1, fun x14 x15 x16 x17 x18 => ?_⟩
      unfold LE
      simp only [pvs_Cells, Nat.reduceSub, Nat.reduceAdd, Nat.reduceLT, Nat.reduceLeDiff, Nat.reduceEqDiff, decide_true, decide_false, Bool.not_true, Bool.not_false, reduceCtorEq, eq_self, if_true, if_false, l4, (by decide : (0 : Int) < 7)]
      rw [e_rg1 ⟨k2, k3⟩, k4]
  obtain ⟨kk, kk1, e2⟩ := e2
  -- the answers
  have e3 : ∀ x15 x16 x17 x18, ∃ (A : List Tx) (x15' x16' x17' : Option (Dat × Kd)), (A.length ≤ 4 ∧ A.Nodup ∧ na ∉ A ∧ ∀ a ∈ A, a ∈ nmsT t) ∧ forGo (.one 15) b__law_letters_2 ((List.range kk).map (fun (i : Nat) => Dat.int i)) (LE S by_ most cs (some (.lst (ls.map ltD), .deep)) many kind t (some (.lst ((nmsT t).map .str), .deep)) x11 (some (.int at_, .shr)) (some (.int n, .deep)) (some (.lst (([] : List Tx).map .str), .deep)) x15 x16 x17 x18 x19) =
      .ok (.nx (LE S by_ most cs (some (.lst (ls.map ltD), .deep)) many kind t (some (.lst ((nmsT t).map .str), .deep)) x11 (some (.int at_, .shr)) (some (.int n, .deep)) (some (.lst (A.map .str), .deep)) x15' x16' x17' x18 x19)) := by
    intro x15 x16 x17 x18
    have hinv := forGo_rel (T := .one 15) (g := b__law_letters_2) (fun (i : Nat) => Dat.int i) (fun (b : Unit) _ => b) (fun _ E => ∃ (A : List Tx) (y15 y16 y17 : Option (Dat × Kd)), (A.length ≤ 4 ∧ A.Nodup ∧ na ∉ A ∧ ∀ a ∈ A, a ∈ nmsT t) ∧ E = LE S by_ most cs (some (.lst (ls.map ltD), .deep)) many kind t (some (.lst ((nmsT t).map .str), .deep)) x11 (some (.int at_, .shr)) (some (.int n, .deep)) (some (.lst (A.map .str), .deep)) y15 y16 y17 x18 x19)
      (xs := List.range kk) (b := ()) (E := LE S by_ most cs (some (.lst (ls.map ltD), .deep)) many kind t (some (.lst ((nmsT t).map .str), .deep)) x11 (some (.int at_, .shr)) (some (.int n, .deep)) (some (.lst (([] : List Tx).map .str), .deep)) x15 x16 x17 x18 x19) ?st ⟨[], x15, x16, x17, ⟨by simp, List.Pairwise.nil, by simp, by simp⟩, rfl⟩
    case st =>
      rintro _ turn E hturn ⟨A, y15, y16, y17, ⟨a1, a2, a3, a4⟩, rfl⟩
      have htn : turn < 10 := by
        have := List.mem_range.mp hturn
        omega
      obtain ⟨A', y16', y17', hA, h⟩ := ll2 (S := S) (by_ := by_) (most := most) (cs := cs) (n := n) (fnd := some (.lst (ls.map ltD), .deep)) (x11 := x11) (x16 := y16) (x17 := y17) (x18 := x18) (x19 := x19) hk hm ha htn hna a1
      refine ⟨_, _, rfl, .inl h, A', some (.int turn, .shr), y16', y17', ?_, rfl⟩
      rcases hA with rfl | ⟨o, rfl, o1, o2, o3, o4⟩
      · exact ⟨a1, a2, a3, a4⟩
      · refine ⟨by rw [List.length_append]; simp; omega, List.nodup_append.mpr ⟨a2, by simp, fun a ha b hb z => o3 (by
          rw [List.mem_singleton] at hb
          rw [← hb, ← z]
          exact ha)⟩, fun z => ?_, fun a ha => ?_⟩
        · rcases List.mem_append.mp z with q | q
          · exact a3 q
          · rw [List.mem_singleton] at q
            exact o2 q.symm
        · rcases List.mem_append.mp ha with q | q
          · exact a4 a q
          · rw [List.mem_singleton] at q
            rw [q]
            exact o1
    obtain ⟨E', h1, A, y15, y16, y17, h2, h3⟩ := hinv
    exact ⟨A, y15, y16, y17, h2, by rw [h1, h3]⟩
  have at0 : dAt ((nmsT t).map .str) (at_ : Int) = some (.str na) := by
    obtain ⟨o', q1, q2, q3⟩ := nms_at (t := t) (z := (at_ : Int)) (by omega) (by omega)
    rw [Int.toNat_natCast, hna] at q1
    injection q1 with q1
    rw [q3, q1]
  -- the one answer at the head of a ring
  have e4 : ∀ A : List Tx, (A.length ≤ 4 ∧ A.Nodup ∧ na ∉ A ∧ ∀ a ∈ A, a ∈ nmsT t) → ∃ B : List Tx, (B.length ≤ 4 ∧ B.Nodup ∧ na ∉ B ∧ ∀ a ∈ B, a ∈ nmsT t) ∧ ∀ x15 x16 x17 x18, (sIf (tAnd' (tOf (fBin gEq (fVar 7) (fC (.int 2)))) (tAnd' (tOf (fBin gEq (fVar 12) (fC (.int 0)))) (tOf (fBin gGt (fVar 6) (fC (.int 1)))))) (sSet false 14 (fLst (aCons (fBin gSubs (fVar 10) (fBin gSub (fVar 6) (fC (.int 1)))) aNil))) sNil) (LE S by_ most cs (some (.lst (ls.map ltD), .deep)) many kind t (some (.lst ((nmsT t).map .str), .deep)) x11 (some (.int at_, .shr)) (some (.int n, .deep)) (some (.lst (A.map .str), .deep)) x15 x16 x17 x18 x19) =
      .ok (.nx (LE S by_ most cs (some (.lst (ls.map ltD), .deep)) many kind t (some (.lst ((nmsT t).map .str), .deep)) x11 (some (.int at_, .shr)) (some (.int n, .deep)) (some (.lst (B.map .str), .deep)) x15 x16 x17 x18 x19)) := by
    intro A hA
    by_cases c1 : kind = 2
    · by_cases c2 : (at_ : Int) = 0
      · by_cases c3 : (1 : Int) < (many : Int)
        · obtain ⟨o, o1, o2, o3⟩ := nms_at (t := t) (z := (many : Int) - 1) (by omega) (by omega)
          have hne : o ≠ na := by
            intro z
            subst z
            have g1 : (nmsT t)[((many : Int) - 1).toNat]? = (nmsT t)[at_]? := by rw [o1, hna]
            have g2 : ((many : Int) - 1).toNat < (nmsT t).length := by rw [nmsT_len]; omega
            have g3 := (List.getElem?_inj g2 nok1).mp g1
            omega
          refine ⟨[o], ⟨by simp, by simp, by simp [hne.symm], by simpa using o2⟩, fun x15 x16 x17 x18 => ?_⟩
          unfold LE
          simp only [pvs_Cells, Nat.reduceSub, Nat.reduceAdd, Nat.reduceLT, Nat.reduceLeDiff, Nat.reduceEqDiff, decide_true, decide_false, Bool.not_true, Bool.not_false, reduceCtorEq, eq_self, if_true, if_false, eqF_i, c1, c2, c3, o3, (by decide : (1 : Nat) ≤ 1000000)]
        · refine ⟨A, hA, fun x15 x16 x17 x18 => ?_⟩
          unfold LE
          simp only [pvs_Cells, Nat.reduceSub, Nat.reduceAdd, Nat.reduceLT, Nat.reduceLeDiff, Nat.reduceEqDiff, decide_true, decide_false, Bool.not_true, Bool.not_false, reduceCtorEq, eq_self, if_true, if_false, eqF_i, c1, c2, c3]
      · refine ⟨A, hA, fun x15 x16 x17 x18 => ?_⟩
        unfold LE
        simp only [pvs_Cells, Nat.reduceSub, Nat.reduceAdd, Nat.reduceLT, Nat.reduceLeDiff, Nat.reduceEqDiff, decide_true, decide_false, Bool.not_true, Bool.not_false, reduceCtorEq, eq_self, if_true, if_false, eqF_i, c1, c2]
    · refine ⟨A, hA, fun x15 x16 x17 x18 => ?_⟩
      unfold LE
      simp only [pvs_Cells, Nat.reduceSub, Nat.reduceAdd, Nat.reduceLT, Nat.reduceLeDiff, Nat.reduceEqDiff, decide_true, decide_false, Bool.not_true, Bool.not_false, reduceCtorEq, eq_self, if_true, if_false, eqF_i, c1]
  -- the title
  have i2 : (0 : Int) ≤ n / 101 % 8 := Int.emod_nonneg _ (by decide)
  have i3 : n / 101 % 8 < (ttl8.length : Int) := by
    have := Int.emod_lt_of_pos (n / 101) (show (0 : Int) < 8 by decide)
    have e : (ttl8.length : Int) = 8 := rfl
    omega
  obtain ⟨p, _, hp1, hp2⟩ := dAt_map (e := Dat.str) i2 i3
  obtain ⟨tp1, tp2⟩ := ttl8_ok p hp1
  have i4 : (0 : Int) ≤ n / 808 % 2 := Int.emod_nonneg _ (by decide)
  have i5 : n / 808 % 2 < 2 := Int.emod_lt_of_pos _ (by decide)
  have i6 : ∃ j : Nat, j < 26 ∧ n / 808 % 2 * (t : Int) = (j : Int) := by
    have : n / 808 % 2 = 0 ∨ n / 808 % 2 = 1 := by omega
    rcases this with h | h
    · exact ⟨0, by decide, by rw [h]; simp⟩
    · exact ⟨t, ht, by rw [h]; simp⟩
  obtain ⟨j, hj1, hj2⟩ := i6
  have hj3 := alph_at hj1
  have hj4 : alph.getD j 0 ∈ alph := by
    have h2 : j < alph.length := hj1
    rw [List.getD_eq_getElem?_getD, List.getElem?_eq_getElem h2]
    exact List.getElem_mem h2
  obtain ⟨tl1, tl2⟩ := tp2 _ hj4
  have m2 : cMul (n / 808 % 2) (t : Int) = true := cMul_of (bits_small (by omega)) (bits_small (by omega)) (by decide)
  generalize hT : replT p [120] [alph.getD j 0] = T at tl1 tl2
  -- all of it
  obtain ⟨A, y15, y16, y17, hA, e3'⟩ := e3 x15 x16 x17 x18
  obtain ⟨B, hB, e4'⟩ := e4 A hA
  have pl : [Dat.str [120], .str [114, 101, 58, 32, 120], .str [], .str [121], .str [114, 101, 58, 114, 101, 58, 32, 32, 120, 32], .str [114, 101, 58], .str [32, 121], .str [114, 101, 58, 32, 114, 101, 58, 32, 32, 120, 32, 121]] = ttl8.map .str := rfl
  have fin_ : ∃ T' : Tx, T'.length ≤ 12 ∧ T'.all okS = true ∧ ∀ E : Sto, slot E 4 = some (.int (cs.sum + by_), .deep) → slot E 18 = some (.str T, .deep) → (fIf (tOf (fBin gGt (fBin gMod (fVar 4) (fC (.int 3))) (fC (.int 0)))) (fVar 18) (fC (.str [120]))) E = .ok ⟨.str T', false, [], some []⟩ := by
    by_cases c : (0 : Int) < (cs.sum + (by_ : Int)) % 3
    · refine ⟨T, tl1, tl2, fun E h4 h18 => ?_⟩
      simp only [pvs_Cells, Nat.reduceSub, Nat.reduceAdd, Nat.reduceLT, Nat.reduceLeDiff, Nat.reduceEqDiff, decide_true, decide_false, Bool.not_true, Bool.not_false, reduceCtorEq, eq_self, if_true, if_false, h4, h18, z1, c]
    · refine ⟨[120], by decide, by decide, fun E h4 h18 => ?_⟩
      simp only [pvs_Cells, Nat.reduceSub, Nat.reduceAdd, Nat.reduceLT, Nat.reduceLeDiff, Nat.reduceEqDiff, decide_true, decide_false, Bool.not_true, Bool.not_false, reduceCtorEq, eq_self, if_true, if_false, h4, h18, z1, c]
  obtain ⟨T', f1, f2, f3⟩ := fin_
  refine ⟨⟨na, B, T'⟩, some (.int n, .deep), y15, y16, y17, some (.str T, .deep), ⟨nok2 na (List.mem_of_getElem? hna), f1, f2, hB.1, fun a ha => nok2 a (hB.2.2.2 a ha), hB.2.1, hB.2.2.1⟩, rfl, ?_⟩
  have f4 := f3 (LE S by_ most cs (some (.lst (ls.map ltD), .deep)) many kind t (some (.lst ((nmsT t).map .str), .deep)) x11 (some (.int at_, .shr)) (some (.int n, .deep)) (some (.lst (B.map .str), .deep)) y15 y16 y17 (some (.str T, .deep)) x19) rfl rfl
  have f5 : fTup (aCons (fBin gSubs (fVar 10) (fVar 12)) (aCons (fVar 14) (aCons (fIf (tOf (fBin gGt (fBin gMod (fVar 4) (fC (.int 3))) (fC (.int 0)))) (fVar 18) (fC (.str [120]))) aNil))) (LE S by_ most cs (some (.lst (ls.map ltD), .deep)) many kind t (some (.lst ((nmsT t).map .str), .deep)) x11 (some (.int at_, .shr)) (some (.int n, .deep)) (some (.lst (B.map .str), .deep)) y15 y16 y17 (some (.str T, .deep)) x19) = .ok ⟨ltD ⟨na, B, T'⟩, false, [14], some [14]⟩ := by
    unfold LE at f4 ⊢
    simp only [pvs_Cells, Nat.reduceSub, Nat.reduceAdd, Nat.reduceLT, Nat.reduceLeDiff, Nat.reduceEqDiff, decide_true, decide_false, Bool.not_true, Bool.not_false, reduceCtorEq, eq_self, if_true, if_false, ↓f4, at0, (by decide : (3 : Nat) ≤ 1000000)]
    rfl
  have f6 := app_mv (i := 5) (j := 14) (xs := ls.map ltD) (dd := .lst (B.map .str)) (E := LE S by_ most cs (some (.lst (ls.map ltD), .deep)) many kind t (some (.lst ((nmsT t).map .str), .deep)) x11 (some (.int at_, .shr)) (some (.int n, .deep)) (some (.lst (B.map .str), .deep)) y15 y16 y17 (some (.str T, .deep)) x19) rfl rfl rfl (by rw [List.length_map]; omega) f5
  have e1' := e1 x13 x14 x15 x16 x17 x18
  have e2' := e2 (some (.lst (([] : List Tx).map .str), .deep)) x15 x16 x17 x18
  have e4'' := e4' y15 y16 y17 x18
  have z3 : (0 : Int) < 101 := by decide
  have z4 : (101 : Int) < 1073741824 := by decide
  have z5 : (0 : Int) < 8 := by decide
  have z6 : (0 : Int) < 808 := by decide
  have z7 : (808 : Int) < 1073741824 := by decide
  have z8 : (0 : Int) < 2 := by decide
  have l0 : (0 : Nat) ≤ 1000000 := by decide
  have l8 : (8 : Nat) ≤ 1000000 := by decide
  have e5 : ∀ x15 x16 x17 x18, sSet false 18 (fBin gSubs (fTup (aCons (fC (.str [120])) (aCons (fC (.str [114, 101, 58, 32, 120])) (aCons (fC (.str [])) (aCons (fC (.str [121])) (aCons (fC (.str [114, 101, 58, 114, 101, 58, 32, 32, 120, 32])) (aCons (fC (.str [114, 101, 58])) (aCons (fC (.str [32, 121])) (aCons (fC (.str [114, 101, 58, 32, 114, 101, 58, 32, 32, 120, 32, 121])) aNil))))))))) (fBin gMod (fBin gFdv (fVar 13) (fC (.int 101))) (fC (.int 8)))) (LE S by_ most cs (some (.lst (ls.map ltD), .deep)) many kind t (some (.lst ((nmsT t).map .str), .deep)) x11 (some (.int at_, .shr)) (some (.int n, .deep)) (some (.lst (B.map .str), .deep)) x15 x16 x17 x18 x19) = .ok (.nx (LE S by_ most cs (some (.lst (ls.map ltD), .deep)) many kind t (some (.lst ((nmsT t).map .str), .deep)) x11 (some (.int at_, .shr)) (some (.int n, .deep)) (some (.lst (B.map .str), .deep)) x15 x16 x17 (some (.str p, .deep)) x19)) := by
    intro x15 x16 x17 x18
    unfold LE
    simp only [pvs_Cells, Nat.reduceSub, Nat.reduceAdd, Nat.reduceLT, Nat.reduceLeDiff, Nat.reduceEqDiff, decide_true, decide_false, Bool.not_true, Bool.not_false, reduceCtorEq, eq_self, if_true, if_false, l8, pl, z3, z4, z5, hp2]
  have e6 : ∀ x15 x16 x17, sSet false 18 (fRepl 18 8 [120] (fBin gMul (fBin gMod (fBin gFdv (fVar 13) (fC (.int 808))) (fC (.int 2))) (fVar 9))) (LE S by_ most cs (some (.lst (ls.map ltD), .deep)) many kind t (some (.lst ((nmsT t).map .str), .deep)) x11 (some (.int at_, .shr)) (some (.int n, .deep)) (some (.lst (B.map .str), .deep)) x15 x16 x17 (some (.str p, .deep)) x19) = .ok (.nx (LE S by_ most cs (some (.lst (ls.map ltD), .deep)) many kind t (some (.lst ((nmsT t).map .str), .deep)) x11 (some (.int at_, .shr)) (some (.int n, .deep)) (some (.lst (B.map .str), .deep)) x15 x16 x17 (some (.str T, .deep)) x19)) := by
    intro x15 x16 x17
    have g1 : fBin gMul (fBin gMod (fBin gFdv (fVar 13) (fC (.int 808))) (fC (.int 2))) (fVar 9) (LE S by_ most cs (some (.lst (ls.map ltD), .deep)) many kind t (some (.lst ((nmsT t).map .str), .deep)) x11 (some (.int at_, .shr)) (some (.int n, .deep)) (some (.lst (B.map .str), .deep)) x15 x16 x17 (some (.str p, .deep)) x19) = .ok ⟨.int j, false, [], some []⟩ := by
      unfold LE
      simp only [pvs_Cells, Nat.reduceSub, Nat.reduceAdd, Nat.reduceLT, Nat.reduceLeDiff, Nat.reduceEqDiff, decide_true, decide_false, Bool.not_true, Bool.not_false, reduceCtorEq, eq_self, if_true, if_false, z6, z7, z8, m2, hj2]
    have g2 : fRepl 18 8 [120] (fBin gMul (fBin gMod (fBin gFdv (fVar 13) (fC (.int 808))) (fC (.int 2))) (fVar 9)) (LE S by_ most cs (some (.lst (ls.map ltD), .deep)) many kind t (some (.lst ((nmsT t).map .str), .deep)) x11 (some (.int at_, .shr)) (some (.int n, .deep)) (some (.lst (B.map .str), .deep)) x15 x16 x17 (some (.str p, .deep)) x19) = .ok ⟨.str T, false, [], some []⟩ := by
      show Res.bind _ _ = _
      rw [g1, bind_ok]
      simp only [hj3]
      rw [if_pos ⟨tp1, by decide⟩, hT]
      rfl
    rw [e_set, g2]
    unfold LE
    simp only [pvs_Cells, Nat.reduceSub, Nat.reduceAdd, Nat.reduceLT, Nat.reduceLeDiff, Nat.reduceEqDiff, decide_true, decide_false, Bool.not_true, Bool.not_false, reduceCtorEq, eq_self, if_true, if_false]
  have e5' := e5 y15 y16 y17 x18
  have e6' := e6 y15 y16 y17
  unfold b__law_letters_3
  unfold LE at e1' e2' e3' e4'' e5' e6' f6 ⊢
  have em : ([] : List Tx).map Dat.str = [] := rfl
  rw [em] at e2' e3'
  rw [e_seq, e_set, e1', e_bok]
  simp only [pvs_Cells, Nat.reduceSub, Nat.reduceAdd, Nat.reduceLT, Nat.reduceLeDiff, Nat.reduceEqDiff, decide_true, decide_false, Bool.not_true, Bool.not_false, reduceCtorEq, eq_self, if_true, if_false, l0, ↓e2', ↓e3', ↓e4'', ↓e5', ↓e6']
  rw [f6, List.map_append]
  rfl
theorem toNat_small {z : Int} {k : Nat} (h : z = (k : Int)) : z.toNat = k := by omega
/-- THE LETTERS: whatever the script -/
theorem lettersE {ns : List Int} (hl : ns.length ≤ 63) (hbits : ∀ z ∈ ns, Builtin.Int.intBits z ≤ 1048576) {by_ most : Nat} (hb : by_ < 90) (hmost : most ≤ 9) : ∃ ls, LtsOk ls ∧ ls.length ≤ most ∧ c__law_letters [.rol (ns.map .int), .int by_, .int most] = .ok (ltsD ls, true) := by
  obtain ⟨cs, hc, hE⟩ := cells_ex hl hbits
  -- the numbers
  have hn1 := numE (a := cs.sum + (by_ : Int)) (b := (by_ : Int) + 1) (c := 3) (hc.sumBy (by omega)) (bits_small (by omega)) (bits_small (by decide))
  have hn2 := numE (a := cs.sum + (by_ : Int)) (b := (by_ : Int) + 2) (c := 3) (hc.sumBy (by omega)) (bits_small (by omega)) (bits_small (by decide))
  have hn3 := numE (a := cs.sum + (by_ : Int)) (b := (by_ : Int) + 4) (c := 5) (hc.sumBy (by omega)) (bits_small (by omega)) (bits_small (by decide))
  generalize numL (cs.sum + (by_ : Int)) ((by_ : Int) + 1) 3 = m1 at hn1
  generalize numL (cs.sum + (by_ : Int)) ((by_ : Int) + 2) 3 = m2 at hn2
  generalize numL (cs.sum + (by_ : Int)) ((by_ : Int) + 4) 5 = m3 at hn3
  obtain ⟨many, q1, q2⟩ : ∃ many : Nat, many ≤ most ∧ m1 / 3 % ((most : Int) + 1) = (many : Int) := by
    have j0 : (0 : Int) ≤ m1 / 3 % ((most : Int) + 1) := Int.emod_nonneg _ (by omega)
    have j1 : m1 / 3 % ((most : Int) + 1) < (most : Int) + 1 := Int.emod_lt_of_pos _ (by omega)
    exact ⟨(m1 / 3 % ((most : Int) + 1)).toNat, by omega, by omega⟩
  obtain ⟨kind, q3, q4⟩ : ∃ kind : Int, (kind = 0 ∨ kind = 1 ∨ kind = 2 ∨ kind = 3) ∧ m2 / 5 % 4 = kind := ⟨_, by omega, rfl⟩
  obtain ⟨t, q5, q6⟩ : ∃ t : Nat, t < 26 ∧ m3 / 3 % 26 = (t : Int) := ⟨(m3 / 3 % 26).toNat, by omega, by omega⟩
  obtain ⟨nok1, nok2⟩ := nmsT_ok t q5
  have z1 : (0 : Int) < 3 := by decide
  have z2 : (3 : Int) < 1073741824 := by decide
  have z3 : (0 : Int) < (most : Int) + 1 := by omega
  have z4 : (0 : Int) < 5 := by decide
  have z5 : (5 : Int) < 1073741824 := by decide
  have z6 : (0 : Int) < 4 := by decide
  have z7 : (0 : Int) < 26 := by decide
  have l0 : (0 : Nat) ≤ 1000000 := by decide
  have l1 : (1 : Nat) ≤ 1000000 := by decide
  have l3 : (3 : Nat) ≤ 1000000 := by decide
  have l12 : (12 : Nat) ≤ 1000000 := by decide
  -- the names
  have hnames2 : ∃ x11, forGo (.one 11) b__law_letters_1 (nms12.map .str) (LE (.rol (ns.map .int)) by_ most cs (some (.lst [], .deep)) many kind t (some (.lst (([] : List Tx).map .str), .deep)) none none none none none none none none none) =
      .ok (.nx (LE (.rol (ns.map .int)) by_ most cs (some (.lst [], .deep)) many kind t (some (.lst ((nmsT t).map .str), .deep)) x11 none none none none none none none none)) := by
    have step : ∀ (ys xs : List Tx) (x11 : Option (Dat × Kd)), (∀ y ∈ ys, y ∈ nms12) → xs.length + ys.length ≤ 20 → ∃ x11', forGo (.one 11) b__law_letters_1 (ys.map .str) (LE (.rol (ns.map .int)) by_ most cs (some (.lst [], .deep)) many kind t (some (.lst (xs.map .str), .deep)) x11 none none none none none none none none) =
        .ok (.nx (LE (.rol (ns.map .int)) by_ most cs (some (.lst [], .deep)) many kind t (some (.lst ((xs ++ ys.map fun w => w.map (rot t)).map .str), .deep)) x11' none none none none none none none none)) := by
      intro ys
      induction ys with
      | nil =>
        intro xs x11 _ _
        refine ⟨x11, ?_⟩
        rw [List.map_nil, List.map_nil, List.append_nil]
        rfl
      | cons y ys ih =>
        intro xs x11 hy hlen
        simp only [List.length_cons] at hlen
        obtain ⟨x11', h⟩ := ih (xs ++ [y.map (rot t)]) (some (.str y, .shr)) (fun z hz => hy z (List.mem_cons_of_mem _ hz)) (by rw [List.length_append]; simp only [List.length_cons, List.length_nil]; omega)
        refine ⟨x11', ?_⟩
        have e := ll1 (S := .rol (ns.map .int)) (by_ := by_) (most := most) (many := many) (kind := kind) (cs := cs) (fnd := some (.lst [], .deep)) (x12 := none) (x13 := none) (x14 := none) (x15 := none) (x16 := none) (x17 := none) (x18 := none) (x19 := none) q5 (xs := xs) (by omega) (hy y List.mem_cons_self)
        rw [List.map_cons]
        show (b__law_letters_1 (LE (.rol (ns.map .int)) by_ most cs (some (.lst [], .deep)) many kind t (some (.lst (xs.map .str), .deep)) (some (.str y, .shr)) none none none none none none none none)).bind _ = _
        rw [e]
        show forGo _ _ _ _ = _
        rw [h, List.map_cons, List.append_assoc]
        rfl
    exact step nms12 [] none (fun _ z => z) (by decide)
  obtain ⟨x11, hnames⟩ := hnames2
  -- the letters
  have hlet : ∀ (k a : Nat) (ls : List Letter) (x12 x13 x14 x15 x16 x17 x18 : Option (Dat × Kd)), a + k = many → ls.map (·.nm) = (nmsT t).take a → (∀ l ∈ ls, LtOk l) → ∃ (ls' : List Letter) (y12 y13 y14 y15 y16 y17 y18 : Option (Dat × Kd)), ls'.map (·.nm) = (nmsT t).take many ∧ (∀ l ∈ ls', LtOk l) ∧
      forGo (.one 12) b__law_letters_3 ((List.range' a k).map fun (i : Nat) => Dat.int i) (LE (.rol (ns.map .int)) by_ most cs (some (.lst (ls.map ltD), .deep)) many kind t (some (.lst ((nmsT t).map .str), .deep)) x11 x12 x13 x14 x15 x16 x17 x18 none) =
        .ok (.nx (LE (.rol (ns.map .int)) by_ most cs (some (.lst (ls'.map ltD), .deep)) many kind t (some (.lst ((nmsT t).map .str), .deep)) x11 y12 y13 y14 y15 y16 y17 y18 none)) := by
    intro k
    induction k with
    | zero =>
      intro a ls x12 x13 x14 x15 x16 x17 x18 ha hn ho
      exact ⟨ls, x12, x13, x14, x15, x16, x17, x18, by rw [hn, ← ha, Nat.add_zero], ho, rfl⟩
    | succ k ih =>
      intro a ls x12 x13 x14 x15 x16 x17 x18 ha hn ho
      have hal : a < (nmsT t).length := by rw [nmsT_len]; omega
      have hlen : ls.length = a := by
        have := congrArg List.length hn
        rw [List.length_map, List.length_take] at this
        omega
      obtain ⟨l, y13, y15, y16, y17, y18, o1, o2, o3⟩ := ll3 (S := .rol (ns.map .int)) (by_ := by_) (most := most) (many := many) (x11 := x11) (x13 := x13) (x14 := x14) (x15 := x15) (x16 := x16) (x17 := x17) (x18 := x18) (x19 := none) hc (by omega) q5 q3 (by omega) (at_ := a) (by omega) (List.getElem?_eq_getElem hal) (ls := ls) (by omega)
      have hn' : (ls ++ [l]).map (·.nm) = (nmsT t).take (a + 1) := by
        rw [List.map_append, hn, List.take_succ, List.getElem?_eq_getElem hal]
        simp [o2]
      obtain ⟨ls', w12, w13, w14, w15, w16, w17, w18, h1, h2, h3⟩ := ih (a + 1) (ls ++ [l]) (some (.int a, .shr)) y13 none y15 y16 y17 y18 (by omega) hn' (fun l' hl' => (List.mem_append.mp hl').elim (ho l') fun z => by
        rw [List.mem_singleton] at z
        rw [z]
        exact o1)
      refine ⟨ls', w12, w13, w14, w15, w16, w17, w18, h1, h2, ?_⟩
      rw [List.range'_succ, List.map_cons]
      show (b__law_letters_3 (LE (.rol (ns.map .int)) by_ most cs (some (.lst (ls.map ltD), .deep)) many kind t (some (.lst ((nmsT t).map .str), .deep)) x11 (some (.int a, .shr)) x13 x14 x15 x16 x17 x18 none)).bind _ = _
      rw [o3]
      exact h3
  obtain ⟨ls, w12, w13, w14, w15, w16, w17, w18, h1, h2, h3⟩ := hlet many 0 [] none none none none none none none (by omega) rfl (fun _ z => nomatch z)
  have hlen : ls.length = many := by
    have := congrArg List.length h1
    rw [List.length_map, List.length_take, nmsT_len] at this
    omega
  refine ⟨ls, ⟨by omega, ?_, h2⟩, by omega, ?_⟩
  · rw [h1]
    exact nok1.sublist (List.take_sublist _ _)
  have hE2 := hE [some (.rol (ns.map .int), .shr), some (.int by_, .shr), some (.int most, .shr), none, none, none, none, none, none, none, none, none, none, none, none, none, none, none, none, none] rfl
  have pl : [Dat.str [100], .str [100, 101], .str [102], .str [97], .str [101, 99], .str [99], .str [104], .str [104, 107, 99], .str [105], .str [109], .str [109, 106], .str [108]] = nms12.map .str := rfl
  have al : [97, 98, 99, 100, 101, 102, 103, 104, 105, 106, 107, 108, 109, 110, 111, 112, 113, 114, 115, 116, 117, 118, 119, 120, 121, 122] = alph := rfl
  unfold c__law_letters g__law_letters ltsD
  unfold LE at hnames h3
  have em : ([] : List Tx).map Dat.str = [] := rfl
  have em2 : ([] : List Letter).map ltD = [] := rfl
  rw [em] at hnames
  rw [em2, List.range_eq_range'.symm] at h3
  have rg := e_rg1 (rt := false) (s := []) (m := some []) (j := (many : Int)) (by omega)
  rw [Int.toNat_natCast] at rg
  simp only [pvs_Cells, Nat.reduceSub, Nat.reduceAdd, Nat.reduceLT, Nat.reduceLeDiff, Nat.reduceEqDiff, decide_true, decide_false, Bool.not_true, Bool.not_false, reduceCtorEq, eq_self, if_true, if_false, ↓hE2, e_sum, l0, l3, l12, hn1, hn2, hn3, z1, z2, z3, z4, z5, z6, z7, q2, q4, q6, pl, al, hnames, rg, h3]
  rfl
end PV

/-! names, what letters tell of gaps, where each name wants to stand -/
namespace PV
open PySem PySem.Spec L2
def pvs_Told := And.intro @e_bok <| And.intro @e_bexc <| And.intro @fin_rt <| And.intro @fin_nx <| And.intro @fin_exc <| And.intro @run1 <| And.intro @run2 <| And.intro @run3 <| And.intro @run4 <| And.intro @e_seq <| And.intro @e_seq_nx <| And.intro @e_seq_rt <| And.intro @e_seq_bk <| And.intro @e_seq_ct <| And.intro @e_nil <| And.intro @e_pass <| And.intro @e_brk <| And.intro @e_cnt <| And.intro @e_retN <| And.intro @e_raise <| And.intro @e_drop <| And.intro @e_drop1 <| And.intro @e_ret <| And.intro @take_flat <| And.intro @e_ret_deep <| And.intro @e_ret_one <| And.intro @e_ret_none <| And.intro @e_if <| And.intro @e_if_t <| And.intro @e_if_f <| And.intro @e_set <| And.intro @e_set_deep <| And.intro @e_set_none <| And.intro @e_down_nil <| And.intro @e_wipe_nil <| And.intro @e_wipe <| And.intro @e_c <| And.intro @e_slot0 <| And.intro @e_slotS <| And.intro @e_var <| And.intro @e_var1 <| And.intro @e_rv_int <| And.intro @e_rv_str <| And.intro @e_rv_bl <| And.intro @e_rv_non <| And.intro @e_rv_lstD <| And.intro @e_rv_lstR <| And.intro @e_rv_lstS <| And.intro @e_rv_dicD <| And.intro @e_rv_dicR <| And.intro @e_rv_dicS <| And.intro @e_bin <| And.intro @e_bin1 <| And.intro @e_one <| And.intro @e_tOf <| And.intro @e_toB <| And.intro @e_tNot <| And.intro @e_tNot1 <| And.intro @e_tAnd <| And.intro @e_tOr <| And.intro @e_tAnd_t <| And.intro @e_tAnd_f <| And.intro @e_tOr_t <| And.intro @e_tOr_f <| And.intro @e_and <| And.intro @e_or <| And.intro @e_and_t <| And.intro @e_and_f <| And.intro @e_or_t <| And.intro @e_or_f <| And.intro @e_not <| And.intro @e_not1 <| And.intro @e_neg <| And.intro @e_neg1 <| And.intro @e_ife <| And.intro @e_ife_t <| And.intro @e_ife_f <| And.intro @e_aNil <| And.intro @e_aCons <| And.intro @e_aCons1 <| And.intro @e_aCons2 <| And.intro @e_tup <| And.intro @e_lst <| And.intro @e_tup1 <| And.intro @e_lst1 <| And.intro @e_src0 <| And.intro @e_srcS <| And.intro @e_mv0 <| And.intro @e_mvS <| And.intro @e_mvN <| And.intro @e_mvC <| And.intro @e_mvC0 <| And.intro @e_add_i <| And.intro @e_add_s <| And.intro @e_add_l <| And.intro @e_sub <| And.intro @e_mod <| And.intro @e_fdv <| And.intro @e_mul <| And.intro @e_mul_s <| And.intro @e_pow18 <| And.intro @e_lt <| And.intro @e_le <| And.intro @e_gt <| And.intro @e_ge <| And.intro @e_eq <| And.intro @e_ne <| And.intro @e_eq1 <| And.intro @e_ne1 <| And.intro @eqF_s <| And.intro @eqF_i <| And.intro @eqF_b <| And.intro @eqF_ln <| And.intro @eqF_rn <| And.intro @e_in_s <| And.intro @e_in_l <| And.intro @e_in_r <| And.intro @e_in_t <| And.intro @e_in_d <| And.intro @e_in1 <| And.intro @e_rsB_f <| And.intro @e_rsB_t <| And.intro @e_pick_s <| And.intro @e_pick_i <| And.intro @e_pick_b <| And.intro @e_pick_l <| And.intro @e_pick_d <| And.intro @e_subs_l <| And.intro @e_subs_r <| And.intro @e_subs_t <| And.intro @e_subs_s <| And.intro @e_subs_d <| And.intro @e_subs1 <| And.intro @e_subsS <| And.intro @e_oNone <| And.intro @e_oSome <| And.intro @e_oSome1 <| And.intro @e_sl <| And.intro @e_sl1 <| And.intro @e_sl2 <| And.intro @e_sl_s <| And.intro @e_sl_l <| And.intro @e_sl_r <| And.intro @e_newL <| And.intro @e_newN <| And.intro @e_len_l <| And.intro @e_len_r <| And.intro @e_len_t <| And.intro @e_len_d <| And.intro @e_len_s <| And.intro @e_sum <| And.intro @e_all <| And.intro @e_any <| And.intro @e_m1 <| And.intro @e_m11 <| And.intro @e_startsw <| And.intro @e_strip <| And.intro @e_lstrip <| And.intro @e_split <| And.intro @e_join <| And.intro @e_iOf <| And.intro @e_it_l <| And.intro @e_it_r <| And.intro @e_it_t <| And.intro @e_it_s <| And.intro @e_range1 <| And.intro @e_rg1 <| And.intro @e_for <| And.intro @e_for1 <| And.intro @e_tTrue <| And.intro @e_step <| And.intro @e_step_t <| And.intro @e_step_f <| And.intro @e_step2 <| And.intro @e_bind1 <| And.intro @e_call <| And.intro @e_call1 <| And.intro @e_call_s <| And.intro @e_call_i <| And.intro @e_call_b <| And.intro @e_call_n <| And.intro @e_call_l <| And.intro @e_call_d <| And.intro @e_isi_s <| And.intro @e_cut_hi <| And.intro @e_cut_lo <| And.intro @e_cut_mid <| And.intro @e_cut_last <| And.intro @e_cut_init <| And.intro @e_rv_rol <| And.intro @e_par <| And.intro @e_par2 <| And.intro @e_par3 <| And.intro @e_wh1_t <| And.intro @e_wh1_f <| And.intro @e_wh2_nx <| And.intro @e_wh2_ct <| And.intro @e_wh2_bk <| And.intro @e_wh2_rt <| And.intro @e_sorted_s <| And.intro @e_list_d <| And.intro @e_sorted_t <| And.intro @e_sortSet_s <| And.intro @e_lenSet_s <| And.intro @e_min_s <| And.intro @e_max_i <| And.intro @e_chain <| And.intro @e_chain1 <| And.intro @e_chain2 <| And.intro @e_chain_t <| And.intro @e_chain_f <| And.intro @e_isi_l <| And.intro @e_isi_t <| And.intro @e_isi_ss <| And.intro @e_rv_tupF <| And.intro @e_rv_tupS <| And.intro @e_rv_tupD <| And.intro @e_pick_tF <| And.intro @e_pick_tS <| And.intro @e_call_tF <| And.intro @e_call_lS <| And.intro @e_flat0 <| And.intro @e_flat_s <| And.intro @e_flat_i <| And.intro @e_flat_b <| And.intro @e_flat_n <| And.intro @e_flat_l <| And.intro @e_newLs <| And.intro @e_newLi <| And.intro @e_at0 <| And.intro @e_at1 <| And.intro @e_at2 <| And.intro @e_at3 <| And.intro @e_atL <| And.intro @e_subs_map <| And.intro @e_put <| And.intro @e_get2 <| And.intro @e_lm <| And.intro @e_lidx <| And.intro @e_lcnt <| And.intro @e_max2 <| And.intro @e_cont <| And.intro @e_any_ss <| And.intro @e_in_ss <| And.intro @e_in_dd <| And.intro @e_rev_l <| And.intro @e_list_l <| And.intro @e_ne0 <| And.intro @e_dic0 <| And.intro @e_down_cons <| And.intro @e_down_some <| And.intro @e_down_none <| And.intro @e_unp <| And.intro @e_unp2 <| And.intro @e_unp3 <| And.intro @e_keys <| And.intro @e_bindL0 <| And.intro @e_bindLS <| And.intro @List.length_cons.{0} <| And.intro @List.length_map.{0,0} <| And.intro @List.length_nil.{0} <| And.intro @List.map_cons.{0,0} <| And.intro @List.map_nil.{0,0} <| And.intro @List.replicate_succ.{0} <| And.intro @List.replicate_zero.{0} <| And.intro @List.set_cons_zero.{0} <| And.intro @List.set_cons_succ.{0} <| And.intro @List.cons_append.{0} <| And.intro @List.nil_append.{0} <| And.intro @List.append_nil.{0} <| And.intro @Nat.zero_add <| And.intro @Nat.add_zero <| And.intro @Nat.zero_lt_succ <| And.intro @Nat.lt_add_left_iff_pos <| @Nat.succ_pos
/-- a loop whose state is told by the items gone by -/
theorem forGo_pre {α : Type} {T : Tgt} {g : Sto → Res Fl} (e : α → Dat) (P : List α → Sto → Prop) (xs : List α) {E : Sto}
    (hs : ∀ pre a post E, xs = pre ++ a :: post → P pre E → ∃ E1 E2, bindT T (e a) E = some E1 ∧ (g E1 = .ok (.nx E2) ∨ g E1 = .ok (.ct E2)) ∧ P (pre ++ [a]) E2) (h : P [] E) : ∃ E', forGo T g (xs.map e) E = .ok (.nx E') ∧ P xs E' := by
  have key : ∀ (post pre : List α) (E : Sto), xs = pre ++ post → P pre E → ∃ E', forGo T g (post.map e) E = .ok (.nx E') ∧ P xs E' := by
    intro post
    induction post with
    | nil =>
      intro pre E hx hp
      rw [List.append_nil] at hx
      exact ⟨E, rfl, hx ▸ hp⟩
    | cons a post ih =>
      intro pre E hx hp
      obtain ⟨E1, E2, h1, h2, h3⟩ := hs pre a post E hx hp
      obtain ⟨E', h4, h5⟩ := ih (pre ++ [a]) E2 (by rw [hx]; simp) h3
      refine ⟨E', ?_, h5⟩
      rw [List.map_cons]
      simp only [forGo, h1]
      rcases h2 with h2 | h2
      · rw [h2]
        exact h4
      · rw [h2]
        exact h4
  exact key xs [] E rfl h
/-! ### all names -/
def allN (ls : List Letter) : List Tx := ls.flatMap fun l => l.nm :: l.ans
def namesL (ls : List Letter) : List Tx := sortT (nubT (allN ls))
theorem allN_app (a b : List Letter) : allN (a ++ b) = allN a ++ allN b := List.flatMap_append
theorem allN_len : ∀ {ls : List Letter}, (∀ l ∈ ls, l.ans.length ≤ 4) → (allN ls).length ≤ 5 * ls.length
  | [], _ => by simp [allN]
  | l :: ls, h => by
    have ih := allN_len (ls := ls) fun x hx => h x (List.mem_cons_of_mem _ hx)
    have h1 := h l List.mem_cons_self
    have e : allN (l :: ls) = (l.nm :: l.ans) ++ allN ls := rfl
    rw [e, List.length_append]
    simp only [List.length_cons]
    omega
theorem mem_namesL {ls : List Letter} {x : Tx} : x ∈ namesL ls ↔ ∃ l ∈ ls, x = l.nm ∨ x ∈ l.ans := by
  unfold namesL
  rw [mem_sortT, mem_nubT]
  unfold allN
  rw [List.mem_flatMap]
  constructor
  · rintro ⟨l, hl, h⟩
    exact ⟨l, hl, List.mem_cons.mp h⟩
  · rintro ⟨l, hl, h⟩
    exact ⟨l, hl, List.mem_cons.mpr h⟩
theorem namesL_nodup (ls : List Letter) : (namesL ls).Nodup := nodup_sortT (nubT_nodup _)
theorem namesL_up (ls : List Letter) : (namesL ls).Pairwise fun a b => ltT b a = false := sortT_up _
theorem nubT_le (ns : List Tx) : (nubT ns).length ≤ ns.length := nubT_len ns
structure LtsFew (ls : List Letter) : Prop where
  len : ls.length ≤ 9
  few : ∀ l ∈ ls, l.ans.length ≤ 4
theorem LtsOk.few {ls : List Letter} (h : LtsOk ls) : LtsFew ls := ⟨h.len, fun l hl => (h.all l hl).few⟩
theorem namesL_len {ls : List Letter} (h : LtsFew ls) : (namesL ls).length ≤ 45 := by
  unfold namesL
  rw [len_sortT]
  have := nubT_le (allN ls)
  have := allN_len h.few
  have := h.len
  omega
theorem LtsFew.pre {ls pre post : List Letter} (h : LtsFew ls) (e : ls = pre ++ post) : LtsFew pre := by
  subst e
  refine ⟨?_, fun l hl => h.few l (List.mem_append_left _ hl)⟩
  have := h.len
  rw [List.length_append] at this
  omega
theorem namesE {ls : List Letter} (h : LtsFew ls) : c_names_of [ltsD ls] = .ok (.lst ((namesL ls).map .str), true) := by
  have hinv := forGo_pre (T := .many [2, 3, 4]) (g := b_names_of_1) ltD (fun pre E => ∃ x2 x3 x4, E = [some (.lst (ls.map ltD), .shr), some (.lst ((allN pre).map .str), .deep), x2, x3, x4]) ls (E := [some (.lst (ls.map ltD), .shr), some (.lst [], .deep), none, none, none]) ?st ⟨none, none, none, rfl⟩
  case st =>
    rintro pre l post E hpre ⟨x2, x3, x4, rfl⟩
    have hp := h.pre hpre
    have h4 := h.few l (by rw [hpre]; simp)
    have h1 := allN_len hp.few
    have h2 := hp.len
    refine ⟨[some (.lst (ls.map ltD), .shr), some (.lst ((allN pre).map .str), .deep), some (.str l.nm, .shr), some (.lst (l.ans.map .str), .shr), some (.str l.ttl, .shr)], _, rfl, .inl ?_, some (.str l.nm, .shr), some (.lst (l.ans.map .str), .shr), some (.str l.ttl, .shr), rfl⟩
    unfold b_names_of_1
    have h5 : (1 : Nat) + (l.ans.map Dat.str).length ≤ 1000000 := by rw [List.length_map]; omega
    have h6 : (1 : Nat) ≤ 1000000 := by decide
    have e1 : fBin gAdd (fLst (aCons (fVar 2) aNil)) (fVar 3) [some (.lst (ls.map ltD), .shr), some (.lst ((allN pre).map .str), .deep), some (.str l.nm, .shr), some (.lst (l.ans.map .str), .shr), some (.str l.ttl, .shr)] = .ok ⟨.lst ((l.nm :: l.ans).map .str), true, [3], some []⟩ := by
      have e2 : flatL (Dat.str l.nm :: l.ans.map .str) = true := flat_strs (l.nm :: l.ans)
      simp only [pvs_Told, Nat.reduceSub, Nat.reduceAdd, Nat.reduceLT, Nat.reduceLeDiff, Nat.reduceEqDiff, decide_true, decide_false, Bool.not_true, Bool.not_false, reduceCtorEq, eq_self, if_true, if_false, h6]
      rw [e_add_l (by rw [List.length_map]; simp only [List.length_cons, List.length_nil]; omega), List.cons_append, List.nil_append, e_newL e2]
      rfl
    refine (ext_ok rfl ?_ (flat_strs _) e1).trans ?_
    · rw [List.length_map, List.length_map]
      simp only [List.length_cons]
      omega
    · rw [allN_app]
      simp [allN]
  obtain ⟨E', h1, x2, x3, x4, rfl⟩ := hinv
  have hl : (allN ls).length ≤ 4000 := by
    have := allN_len h.few
    have := h.len
    omega
  unfold c_names_of g_names_of ltsD
  have l0 : (0 : Nat) ≤ 1000000 := by decide
  simp only [pvs_Told, Nat.reduceSub, Nat.reduceAdd, Nat.reduceLT, Nat.reduceLeDiff, Nat.reduceEqDiff, decide_true, decide_false, Bool.not_true, Bool.not_false, reduceCtorEq, eq_self, if_true, if_false, l0, h1, e_sortSet_s hl]
  rfl
/-! ### what most tell -/
def pLt (p q : Int × Tx) : Bool := if p.1 = q.1 then ltT p.2 q.2 else decide (p.1 < q.1)
def pD (p : Int × Tx) : Dat := .tup [.int p.1, .str p.2]
theorem ltK_pD (p q : Int × Tx) : ltK (pD p) (pD q) = pLt p q := by
  obtain ⟨a, x⟩ := p
  obtain ⟨b, y⟩ := q
  have e1 : keyD (pD (a, x)) = PySem.W.keyToksAll [PyData.int a, .str (mkS x)] := rfl
  have e2 : keyD (pD (b, y)) = PySem.W.keyToksAll [PyData.int b, .str (mkS y)] := rfl
  unfold ltK pLt
  rw [e1, e2]
  by_cases h : a = b
  · subst h
    rw [PySem.W.dataLt_all_yes rfl (by show (a == a) = true; simp), if_pos rfl]
    by_cases h2 : x = y
    · subst h2
      rw [PyProof.Rows.lex_irrefl (O := PyProof.Rows.itemOrd), ltT_irrefl]
    · rw [PySem.W.dataLt_all_no rfl (by show (mkS x == mkS y) = false; rw [beq_eq_false_iff_ne]; exact fun z => h2 (mkS_inj z))]
      exact ltK_str x y
  · rw [PySem.W.dataLt_all_no rfl (by show (a == b) = false; simpa using h), if_neg h]
    exact ltK_int a b
def minP (x : Int × Tx) (xs : List (Int × Tx)) : Int × Tx := xs.foldl (fun a y => if pLt y a then y else a) x
theorem minK_pD : ∀ (xs : List (Int × Tx)) (x : Int × Tx), minK (pD x) (xs.map pD) = pD (minP x xs)
  | [], _ => rfl
  | y :: xs, x => by
    have e : (if ltK (pD y) (pD x) = true then pD y else pD x) = pD (if pLt y x then y else x) := by
      rw [ltK_pD]
      split <;> rfl
    show minK (if ltK (pD y) (pD x) = true then pD y else pD x) (xs.map pD) = _
    rw [e, minK_pD xs]
    rfl
theorem pLt_irrefl (p : Int × Tx) : pLt p p = false := by
  unfold pLt
  rw [if_pos rfl]
  exact ltT_irrefl _
theorem pLt_ntrans {a b c : Int × Tx} (h : pLt b a = false) (h2 : pLt c b = false) : pLt c a = false := by
  have h' : ltK (pD b) (pD a) = false := (ltK_pD b a).trans h
  have h2' : ltK (pD c) (pD b) = false := (ltK_pD c b).trans h2
  exact (ltK_pD c a).symm.trans (ltK_tr h' h2')
theorem pLt_asymm {a b : Int × Tx} (h : pLt a b = true) : pLt b a = false := (ltK_pD b a).symm.trans (ltK_asym ((ltK_pD a b).trans h))
theorem minP_spec : ∀ (xs : List (Int × Tx)) (x : Int × Tx), minP x xs ∈ x :: xs ∧ ∀ y ∈ x :: xs, pLt y (minP x xs) = false
  | [], x => ⟨List.mem_cons_self, fun y hy => by
    rw [List.mem_singleton] at hy
    rw [hy]
    exact pLt_irrefl _⟩
  | y :: xs, x => by
    have e : minP x (y :: xs) = minP (if pLt y x = true then y else x) xs := rfl
    rw [e]
    obtain ⟨h1, h2⟩ := minP_spec xs (if pLt y x = true then y else x)
    cases hlt : pLt y x with
    | true =>
      rw [hlt, if_pos rfl] at h1 h2
      rw [if_pos rfl]
      refine ⟨List.mem_cons_of_mem _ h1, fun z hz => ?_⟩
      rcases List.mem_cons.mp hz with q | q
      · rw [q]
        exact pLt_ntrans (h2 y List.mem_cons_self) (pLt_asymm hlt)
      · exact h2 z q
    | false =>
      rw [hlt, if_neg Bool.false_ne_true] at h1 h2
      rw [if_neg Bool.false_ne_true]
      refine ⟨?_, fun z hz => ?_⟩
      · rcases List.mem_cons.mp h1 with q | q
        · rw [q]
          exact List.mem_cons_self
        · exact List.mem_cons_of_mem _ (List.mem_cons_of_mem _ q)
      · rcases List.mem_cons.mp hz with q | q
        · exact h2 z (by rw [q]; exact List.mem_cons_self)
        · rcases List.mem_cons.mp q with q | q
          · rw [q]
            exact pLt_ntrans (h2 x List.mem_cons_self) hlt
          · exact h2 z (List.mem_cons_of_mem _ q)
theorem e_min_p {x : Int × Tx} {xs : List (Int × Tx)} {rt : Bool} {s : List Nat} {m : Option (List Nat)} (h : xs.length < 1000000) : gMin ⟨.lst ((x :: xs).map pD), rt, s, m⟩ = .ok ⟨pD (minP x xs), false, [], some []⟩ := by
  have h1 : toPDs ((x :: xs).map pD) = some ((x :: xs).map fun p => PyData.tuple [.int p.1, .str (mkS p.2)]) := toPDs_map fun _ _ => rfl
  have h2 : ((x :: xs).map pD).all isTupD = true := by
    rw [List.all_eq_true]
    intro d hd
    obtain ⟨y, _, rfl⟩ := List.mem_map.mp hd
    rfl
  have h3 : (((x :: xs).map fun p : Int × Tx => PyData.tuple [.int p.1, .str (mkS p.2)]).all fun p => ((x :: xs).map fun p : Int × Tx => PyData.tuple [.int p.1, .str (mkS p.2)]).all fun q => PySem.W.alike p q) = true := by
    rw [List.all_eq_true]
    intro p hp
    rw [List.all_eq_true]
    intro q hq
    obtain ⟨y, _, rfl⟩ := List.mem_map.mp hp
    obtain ⟨z, _, rfl⟩ := List.mem_map.mp hq
    rfl
  have h4 : PyData.depthAll ((x :: xs).map fun p : Int × Tx => PyData.tuple [.int p.1, .str (mkS p.2)]) ≤ 20 := Nat.le_trans (depthAll_le (n := 1) fun _ _ => Nat.le_refl _) (by decide)
  have h5 : flatL ((x :: xs).map pD) = true := by
    rw [flatL_all, List.all_eq_true]
    intro d hd
    obtain ⟨y, _, rfl⟩ := List.mem_map.mp hd
    rfl
  have hc : cmpOk ((x :: xs).map pD) = true := by
    unfold cmpOk
    simp only [h1, h2, h3, h5, Bool.or_true, Bool.true_and, Bool.and_true, List.length_map, List.length_cons]
    simp only [decide_eq_true h4, Bool.true_and]
    exact decide_eq_true (by omega)
  show (if cmpOk ((x :: xs).map pD) = true then Res.ok (rsF (minK (pD x) (xs.map pD))) else .no) = _
  rw [hc, if_pos rfl, minK_pD]
  rfl
/-- that which stands there most; of several the least -/
def best (l : List Tx) : Tx := match nubT l with
  | [] => []
  | k :: ks => (minP (-(l.count k : Int), k) (ks.map fun k => (-(l.count k : Int), k))).2
structure Best (l : List Tx) (b : Tx) : Prop where
  mem : b ∈ l
  most : ∀ y ∈ l, l.count y ≤ l.count b
  least : ∀ y ∈ l, l.count y = l.count b → ltT y b = false
theorem best_ok {l : List Tx} (h : l ≠ []) : Best l (best l) := by
  unfold best
  cases e : nubT l with
  | nil =>
    cases l with
    | nil => exact absurd rfl h
    | cons a l =>
      have : a ∈ nubT (a :: l) := mem_nubT.mpr List.mem_cons_self
      rw [e] at this
      cases this
  | cons k ks =>
    simp only
    obtain ⟨h1, h2⟩ := minP_spec (ks.map fun k => (-(l.count k : Int), k)) (-(l.count k : Int), k)
    have hm : ((-(l.count k : Int), k) :: ks.map fun k => (-(l.count k : Int), k)) = (k :: ks).map fun k => (-(l.count k : Int), k) := rfl
    rw [hm, ← e] at h1 h2
    obtain ⟨b, hb, eb⟩ := List.mem_map.mp h1
    rw [← eb] at h2 ⊢
    show Best l b
    refine ⟨mem_nubT.mp hb, fun y hy => ?_, fun y hy hc => ?_⟩
    · have := h2 _ (List.mem_map_of_mem (mem_nubT.mpr hy))
      unfold pLt at this
      simp only at this
      by_cases hh : -(l.count y : Int) = -(l.count b : Int)
      · omega
      · rw [if_neg hh] at this
        have := of_decide_eq_false this
        omega
    · have := h2 _ (List.mem_map_of_mem (mem_nubT.mpr hy))
      unfold pLt at this
      simp only at this
      rw [if_pos (by omega)] at this
      exact this
theorem Best.uniq {l : List Tx} {a b : Tx} (ha : Best l a) (hb : Best l b) : a = b := by
  have h1 := ha.most b hb.mem
  have h2 := hb.most a ha.mem
  exact ltT_tot (hb.least a ha.mem (by omega)) (ha.least b hb.mem (by omega))
theorem Best.perm {l m : List Tx} {b : Tx} (p : l.Perm m) (h : Best l b) : Best m b :=
  ⟨p.mem_iff.mp h.mem, fun y hy => by rw [← p.count_eq, ← p.count_eq]; exact h.most y (p.mem_iff.mpr hy), fun y hy hc => h.least y (p.mem_iff.mpr hy) (by rw [p.count_eq, p.count_eq]; exact hc)⟩
theorem best_congr {l m : List Tx} (p : l.Perm m) : best l = best m := by
  by_cases h : l = []
  · subst h
    rw [List.Perm.eq_nil p.symm]
  · have hm : m ≠ [] := fun z => h (by rw [z] at p; exact p.eq_nil)
    exact (best_ok h).perm p |>.uniq (best_ok hm)
/-- the one ahead of x, letter by letter -/
def toldL (ls : List Letter) (x : Tx) : List Tx := ls.filterMap fun l => if x ∈ l.ans.drop 1 then l.ans[l.ans.idxOf x - 1]? else none
theorem toldL_app (a b : List Letter) (x : Tx) : toldL (a ++ b) x = toldL a x ++ toldL b x := List.filterMap_append
theorem toldL_len (ls : List Letter) (x : Tx) : (toldL ls x).length ≤ ls.length := List.length_filterMap_le _ _
theorem idx_ahead {l : List Tx} {x : Tx} (n : l.Nodup) (h : x ∈ l.drop 1) : x ∈ l ∧ 1 ≤ l.idxOf x ∧ l.idxOf x - 1 < l.length ∧ ∃ y, l[l.idxOf x - 1]? = some y := by
  have hm : x ∈ l := List.mem_of_mem_drop h
  have hl : l.idxOf x < l.length := List.idxOf_lt_length_of_mem hm
  have h1 : 1 ≤ l.idxOf x := by
    cases l with
    | nil => cases hm
    | cons a l =>
      have hx : x ∈ l := h
      have hne : a ≠ x := fun z => (List.nodup_cons.mp n).1 (z ▸ hx)
      rw [List.idxOf_cons, show (a == x) = false from beq_eq_false_iff_ne.mpr hne]
      simp
  exact ⟨hm, h1, by omega, _, List.getElem?_eq_getElem (by omega)⟩
theorem nubT_snoc (l : List Tx) (x : Tx) : nubT (l ++ [x]) = addK (nubT l) x := by
  unfold nubT addK
  rw [List.foldl_append]
  rfl
theorem tellE {ls : List Letter} (h : LtsFew ls) (hn : ∀ l ∈ ls, l.ans.Nodup) (x : Tx) : c_told_parent [ltsD ls, .str x] = .ok (.str (best (toldL ls x)), true) := by
  have hinv := forGo_pre (T := .many [3, 4, 5]) (g := b_told_parent_1) ltD (fun pre E => ∃ x3 x4 x5 x6, E = [some (.lst (ls.map ltD), .shr), some (.str x, .shr), some (.dic (nubT (toldL pre x)) ((nubT (toldL pre x)).map fun k => .int ((toldL pre x).count k : Int)), .deep), x3, x4, x5, x6]) ls (E := [some (.lst (ls.map ltD), .shr), some (.str x, .shr), some (.dic [] [], .deep), none, none, none, none]) ?st ⟨none, none, none, none, rfl⟩
  case st =>
    rintro pre l post E hpre ⟨x3, x4, x5, x6, rfl⟩
    have hl : l ∈ ls := by rw [hpre]; simp
    have h4 := h.few l hl
    have hp := (h.pre hpre).len
    have ht := toldL_len pre x
    have hk := nubT_le (toldL pre x)
    rw [toldL_app]
    have l1 : l.ans.length ≤ 1000000 := by omega
    by_cases hx : x ∈ l.ans.drop 1
    · obtain ⟨i1, i2, i3, y, i4⟩ := idx_ahead (hn l hl) hx
      have e0 : toldL [l] x = [y] := by
        unfold toldL
        rw [List.filterMap_cons, if_pos hx, i4]
        rfl
      rw [e0, nubT_snoc]
      refine ⟨[some (.lst (ls.map ltD), .shr), some (.str x, .shr), some (.dic (nubT (toldL pre x)) ((nubT (toldL pre x)).map fun k => .int ((toldL pre x).count k : Int)), .deep), some (.str l.nm, .shr), some (.lst (l.ans.map .str), .shr), some (.str l.ttl, .shr), x6], _, rfl, .inl ?_, some (.str l.nm, .shr), some (.lst (l.ans.map .str), .shr), some (.str l.ttl, .shr), some (.str y, .deep), rfl⟩
      have e1 : dAt (l.ans.map .str) ((l.ans.idxOf x : Int) - 1) = some (.str y) := by
        obtain ⟨o, q1, q2, q3⟩ := dAt_map (e := Dat.str) (xs := l.ans) (z := (l.ans.idxOf x : Int) - 1) (by omega) (by omega)
        have : ((l.ans.idxOf x : Int) - 1).toNat = l.ans.idxOf x - 1 := by omega
        rw [this, i4] at q1
        injection q1 with q1
        rw [q3, q1]
      have e2 : (l.ans.map Dat.str).drop (1 : Int).toNat = (l.ans.drop 1).map .str := by rw [List.map_drop]; rfl
      have e3 : (0 : Int) ≤ 1 := by decide
      have e4 : ∀ E : Sto, slot E 1 = some (.str x, .shr) → slot E 4 = some (.lst (l.ans.map .str), .shr) → fLM gLIdx (fVar 4) (fVar 1) E = .ok ⟨.int (l.ans.idxOf x), false, [], some []⟩ := fun E q1 q4 => by
        have q5 : fVar 4 E = .ok ⟨.lst (l.ans.map .str), false, [4], none⟩ := by simp only [pvs_Told, Nat.reduceSub, Nat.reduceAdd, Nat.reduceLT, Nat.reduceLeDiff, Nat.reduceEqDiff, decide_true, decide_false, Bool.not_true, Bool.not_false, reduceCtorEq, eq_self, if_true, if_false, q4]
        rw [e_lm q5]
        simp only [pvs_Told, Nat.reduceSub, Nat.reduceAdd, Nat.reduceLT, Nat.reduceLeDiff, Nat.reduceEqDiff, decide_true, decide_false, Bool.not_true, Bool.not_false, reduceCtorEq, eq_self, if_true, if_false, q1, e_lidx i1]
      have e5 : fBin gAdd (fGet2 (fVar 2) (fVar 6) (fC (.int 0))) (fC (.int 1)) [some (.lst (ls.map ltD), .shr), some (.str x, .shr), some (.dic (nubT (toldL pre x)) ((nubT (toldL pre x)).map fun k => .int ((toldL pre x).count k : Int)), .deep), some (.str l.nm, .shr), some (.lst (l.ans.map .str), .shr), some (.str l.ttl, .shr), some (.str y, .deep)] = .ok ⟨.int ((toldL pre x).count y + 1), false, [], some []⟩ := by
        rw [e_bin, e_get2 (x := y) (rc := rsF (.int 0)) rfl rfl rfl, dGet_map]
        by_cases hy : y ∈ nubT (toldL pre x)
        · rw [if_pos hy]
          rfl
        · rw [if_neg hy]
          have : (toldL pre x).count y = 0 := List.count_eq_zero.mpr fun z => hy (mem_nubT.mpr z)
          rw [this]
          rfl
      have e6 := put_ok (i := 2) (E := [some (.lst (ls.map ltD), .shr), some (.str x, .shr), some (.dic (nubT (toldL pre x)) ((nubT (toldL pre x)).map fun k => .int ((toldL pre x).count k : Int)), .deep), some (.str l.nm, .shr), some (.lst (l.ans.map .str), .shr), some (.str l.ttl, .shr), some (.str y, .deep)]) (fk := fVar 6) (x := y) rfl (by omega) (.inl rfl) e5 rfl
      have e7 : (addK (nubT (toldL pre x)) y).map (updF (fun k => .int ((toldL pre x).count k : Int)) y (.int ((toldL pre x).count y + 1))) = (addK (nubT (toldL pre x)) y).map fun k => .int ((toldL pre x ++ [y]).count k : Int) := by
        refine List.map_congr_left fun k _ => ?_
        unfold updF
        by_cases hk : k = y
        · subst hk
          rw [if_pos rfl]
          simp
        · rw [if_neg hk]
          rw [List.count_append]
          have : [y].count k = 0 := List.count_eq_zero.mpr (by simpa using hk)
          rw [this]
          rfl
      rw [e7] at e6
      unfold b_told_parent_1
      simp only [pvs_Told, Nat.reduceSub, Nat.reduceAdd, Nat.reduceLT, Nat.reduceLeDiff, Nat.reduceEqDiff, decide_true, decide_false, Bool.not_true, Bool.not_false, reduceCtorEq, eq_self, if_true, if_false, l1, e3, e2, List.length_map, hx, e4, e1, ↓e6]
    · have e0 : toldL [l] x = [] := by
        unfold toldL
        rw [List.filterMap_cons, if_neg hx]
        rfl
      rw [e0, List.append_nil]
      refine ⟨[some (.lst (ls.map ltD), .shr), some (.str x, .shr), some (.dic (nubT (toldL pre x)) ((nubT (toldL pre x)).map fun k => .int ((toldL pre x).count k : Int)), .deep), some (.str l.nm, .shr), some (.lst (l.ans.map .str), .shr), some (.str l.ttl, .shr), x6], _, rfl, .inl ?_, some (.str l.nm, .shr), some (.lst (l.ans.map .str), .shr), some (.str l.ttl, .shr), x6, rfl⟩
      have e2 : (l.ans.map Dat.str).drop (1 : Int).toNat = (l.ans.drop 1).map .str := by rw [List.map_drop]; rfl
      have e3 : (0 : Int) ≤ 1 := by decide
      unfold b_told_parent_1
      simp only [pvs_Told, Nat.reduceSub, Nat.reduceAdd, Nat.reduceLT, Nat.reduceLeDiff, Nat.reduceEqDiff, decide_true, decide_false, Bool.not_true, Bool.not_false, reduceCtorEq, eq_self, if_true, if_false, l1, e3, e2, List.length_map, hx]
  obtain ⟨E', h1, x3, x4, x5, x6, rfl⟩ := hinv
  have ht := toldL_len ls x
  have hl := h.len
  have hk := nubT_le (toldL ls x)
  unfold c_told_parent g_told_parent ltsD
  cases e : nubT (toldL ls x) with
  | nil =>
    rw [e] at h1
    have eb : best (toldL ls x) = [] := by
      unfold best
      rw [e]
    simp only [pvs_Told, Nat.reduceSub, Nat.reduceAdd, Nat.reduceLT, Nat.reduceLeDiff, Nat.reduceEqDiff, decide_true, decide_false, Bool.not_true, Bool.not_false, reduceCtorEq, eq_self, if_true, if_false, h1, eb]
  | cons k ks =>
    have eb : best (toldL ls x) = (minP (-((toldL ls x).count k : Int), k) (ks.map fun k => (-((toldL ls x).count k : Int), k))).2 := by
      unfold best
      rw [e]
    obtain ⟨s, hc⟩ := comp_flat0 (T := .one 6) (own := [6]) (fi := iKeysF 2) (fe := y_told_parent_1) (E := [some (.lst (ls.map ltD), .shr), some (.str x, .shr), some (.dic (nubT (toldL ls x)) ((nubT (toldL ls x)).map fun k => .int ((toldL ls x).count k : Int)), .deep), x3, x4, x5, x6]) (xs := nubT (toldL ls x)) (e := Dat.str) (l := [2]) (fun k => pD (-((toldL ls x).count k : Int), k)) rfl (by omega) (fun a ha => ⟨_, rfl, false, [], by
      have e2 : dGet (nubT (toldL ls x)) ((nubT (toldL ls x)).map fun k => .int ((toldL ls x).count k : Int)) a = some (.int ((toldL ls x).count a : Int)) := by rw [dGet_map, if_pos ha]
      unfold y_told_parent_1
      simp only [pvs_Told, Nat.reduceSub, Nat.reduceAdd, Nat.reduceLT, Nat.reduceLeDiff, Nat.reduceEqDiff, decide_true, decide_false, Bool.not_true, Bool.not_false, reduceCtorEq, eq_self, if_true, if_false, e2, (by decide : (2 : Nat) ≤ 1000000)]
      rfl⟩)
    have em : (nubT (toldL ls x)).map (fun k => pD (-((toldL ls x).count k : Int), k)) = (((-((toldL ls x).count k : Int), k)) :: ks.map fun k => (-((toldL ls x).count k : Int), k)).map pD := by
      rw [e]
      simp
    rw [em] at hc
    have hm := fun rt s m => e_min_p (rt := rt) (s := s) (m := m) (x := (-((toldL ls x).count k : Int), k)) (xs := ks.map fun k => (-((toldL ls x).count k : Int), k)) (by rw [List.length_map]; rw [e] at hk; simp only [List.length_cons] at hk; omega)
    have hne : nubT (toldL ls x) ≠ [] := by rw [e]; simp
    have hv : fBin gSubs (fOne gMin (fComp (.one 6) [6] (iKeysF 2) tTrue y_told_parent_1)) (fC (.int 1)) [some (.lst (ls.map ltD), .shr), some (.str x, .shr), some (.dic (nubT (toldL ls x)) ((nubT (toldL ls x)).map fun k => .int ((toldL ls x).count k : Int)), .deep), x3, x4, x5, x6] = .ok ⟨.str (best (toldL ls x)), false, [], some []⟩ := by
      rw [e_bin, e_one, hc, e_bok, hm, e_bok, eb]
      rfl
    generalize nubT (toldL ls x) = kk at h1 hv hne
    simp only [pvs_Told, Nat.reduceSub, Nat.reduceAdd, Nat.reduceLT, Nat.reduceLeDiff, Nat.reduceEqDiff, decide_true, decide_false, Bool.not_true, Bool.not_false, reduceCtorEq, eq_self, if_true, if_false, h1, hne, ↓hv]
end PV

/-! where each name wants to stand: the program's way and the law's -/
namespace PV
open PySem PySem.Spec L2
def pvs_Want := And.intro @e_bok <| And.intro @e_bexc <| And.intro @fin_rt <| And.intro @fin_nx <| And.intro @fin_exc <| And.intro @run1 <| And.intro @run2 <| And.intro @run3 <| And.intro @run4 <| And.intro @e_seq <| And.intro @e_seq_nx <| And.intro @e_seq_rt <| And.intro @e_seq_bk <| And.intro @e_seq_ct <| And.intro @e_nil <| And.intro @e_pass <| And.intro @e_brk <| And.intro @e_cnt <| And.intro @e_retN <| And.intro @e_raise <| And.intro @e_drop <| And.intro @e_drop1 <| And.intro @e_ret <| And.intro @take_flat <| And.intro @e_ret_deep <| And.intro @e_ret_one <| And.intro @e_ret_none <| And.intro @e_if <| And.intro @e_if_t <| And.intro @e_if_f <| And.intro @e_set <| And.intro @e_set_deep <| And.intro @e_set_none <| And.intro @e_down_nil <| And.intro @e_wipe_nil <| And.intro @e_wipe <| And.intro @e_c <| And.intro @e_slot0 <| And.intro @e_slotS <| And.intro @e_var <| And.intro @e_var1 <| And.intro @e_rv_int <| And.intro @e_rv_str <| And.intro @e_rv_bl <| And.intro @e_rv_non <| And.intro @e_rv_lstD <| And.intro @e_rv_lstR <| And.intro @e_rv_lstS <| And.intro @e_rv_dicD <| And.intro @e_rv_dicR <| And.intro @e_rv_dicS <| And.intro @e_bin <| And.intro @e_bin1 <| And.intro @e_one <| And.intro @e_tOf <| And.intro @e_toB <| And.intro @e_tNot <| And.intro @e_tNot1 <| And.intro @e_tAnd <| And.intro @e_tOr <| And.intro @e_tAnd_t <| And.intro @e_tAnd_f <| And.intro @e_tOr_t <| And.intro @e_tOr_f <| And.intro @e_and <| And.intro @e_or <| And.intro @e_and_t <| And.intro @e_and_f <| And.intro @e_or_t <| And.intro @e_or_f <| And.intro @e_not <| And.intro @e_not1 <| And.intro @e_neg <| And.intro @e_neg1 <| And.intro @e_ife <| And.intro @e_ife_t <| And.intro @e_ife_f <| And.intro @e_aNil <| And.intro @e_aCons <| And.intro @e_aCons1 <| And.intro @e_aCons2 <| And.intro @e_tup <| And.intro @e_lst <| And.intro @e_tup1 <| And.intro @e_lst1 <| And.intro @e_src0 <| And.intro @e_srcS <| And.intro @e_mv0 <| And.intro @e_mvS <| And.intro @e_mvN <| And.intro @e_mvC <| And.intro @e_mvC0 <| And.intro @e_add_i <| And.intro @e_add_s <| And.intro @e_add_l <| And.intro @e_sub <| And.intro @e_mod <| And.intro @e_fdv <| And.intro @e_mul <| And.intro @e_mul_s <| And.intro @e_pow18 <| And.intro @e_lt <| And.intro @e_le <| And.intro @e_gt <| And.intro @e_ge <| And.intro @e_eq <| And.intro @e_ne <| And.intro @e_eq1 <| And.intro @e_ne1 <| And.intro @eqF_s <| And.intro @eqF_i <| And.intro @eqF_b <| And.intro @eqF_ln <| And.intro @eqF_rn <| And.intro @e_in_s <| And.intro @e_in_l <| And.intro @e_in_r <| And.intro @e_in_t <| And.intro @e_in_d <| And.intro @e_in1 <| And.intro @e_rsB_f <| And.intro @e_rsB_t <| And.intro @e_pick_s <| And.intro @e_pick_i <| And.intro @e_pick_b <| And.intro @e_pick_l <| And.intro @e_pick_d <| And.intro @e_subs_l <| And.intro @e_subs_r <| And.intro @e_subs_t <| And.intro @e_subs_s <| And.intro @e_subs_d <| And.intro @e_subs1 <| And.intro @e_subsS <| And.intro @e_oNone <| And.intro @e_oSome <| And.intro @e_oSome1 <| And.intro @e_sl <| And.intro @e_sl1 <| And.intro @e_sl2 <| And.intro @e_sl_s <| And.intro @e_sl_l <| And.intro @e_sl_r <| And.intro @e_newL <| And.intro @e_newN <| And.intro @e_len_l <| And.intro @e_len_r <| And.intro @e_len_t <| And.intro @e_len_d <| And.intro @e_len_s <| And.intro @e_sum <| And.intro @e_all <| And.intro @e_any <| And.intro @e_m1 <| And.intro @e_m11 <| And.intro @e_startsw <| And.intro @e_strip <| And.intro @e_lstrip <| And.intro @e_split <| And.intro @e_join <| And.intro @e_iOf <| And.intro @e_it_l <| And.intro @e_it_r <| And.intro @e_it_t <| And.intro @e_it_s <| And.intro @e_range1 <| And.intro @e_rg1 <| And.intro @e_for <| And.intro @e_for1 <| And.intro @e_tTrue <| And.intro @e_step <| And.intro @e_step_t <| And.intro @e_step_f <| And.intro @e_step2 <| And.intro @e_bind1 <| And.intro @e_call <| And.intro @e_call1 <| And.intro @e_call_s <| And.intro @e_call_i <| And.intro @e_call_b <| And.intro @e_call_n <| And.intro @e_call_l <| And.intro @e_call_d <| And.intro @e_isi_s <| And.intro @e_cut_hi <| And.intro @e_cut_lo <| And.intro @e_cut_mid <| And.intro @e_cut_last <| And.intro @e_cut_init <| And.intro @e_rv_rol <| And.intro @e_par <| And.intro @e_par2 <| And.intro @e_par3 <| And.intro @e_wh1_t <| And.intro @e_wh1_f <| And.intro @e_wh2_nx <| And.intro @e_wh2_ct <| And.intro @e_wh2_bk <| And.intro @e_wh2_rt <| And.intro @e_sorted_s <| And.intro @e_list_d <| And.intro @e_sorted_t <| And.intro @e_sortSet_s <| And.intro @e_lenSet_s <| And.intro @e_min_s <| And.intro @e_max_i <| And.intro @e_chain <| And.intro @e_chain1 <| And.intro @e_chain2 <| And.intro @e_chain_t <| And.intro @e_chain_f <| And.intro @e_isi_l <| And.intro @e_isi_t <| And.intro @e_isi_ss <| And.intro @e_rv_tupF <| And.intro @e_rv_tupS <| And.intro @e_rv_tupD <| And.intro @e_pick_tF <| And.intro @e_pick_tS <| And.intro @e_call_tF <| And.intro @e_call_lS <| And.intro @e_flat0 <| And.intro @e_flat_s <| And.intro @e_flat_i <| And.intro @e_flat_b <| And.intro @e_flat_n <| And.intro @e_flat_l <| And.intro @e_newLs <| And.intro @e_newLi <| And.intro @e_at0 <| And.intro @e_at1 <| And.intro @e_at2 <| And.intro @e_at3 <| And.intro @e_atL <| And.intro @e_subs_map <| And.intro @e_put <| And.intro @e_get2 <| And.intro @e_lm <| And.intro @e_lidx <| And.intro @e_lcnt <| And.intro @e_max2 <| And.intro @e_cont <| And.intro @e_any_ss <| And.intro @e_in_ss <| And.intro @e_in_dd <| And.intro @e_rev_l <| And.intro @e_list_l <| And.intro @e_ne0 <| And.intro @e_dic0 <| And.intro @e_down_cons <| And.intro @e_down_some <| And.intro @e_down_none <| And.intro @e_unp <| And.intro @e_unp2 <| And.intro @e_unp3 <| And.intro @e_keys <| And.intro @e_bindL0 <| And.intro @e_bindLS <| And.intro @List.length_cons.{0} <| And.intro @List.length_map.{0,0} <| And.intro @List.length_nil.{0} <| And.intro @List.map_cons.{0,0} <| And.intro @List.map_nil.{0,0} <| And.intro @List.replicate_succ.{0} <| And.intro @List.replicate_zero.{0} <| And.intro @List.set_cons_zero.{0} <| And.intro @List.set_cons_succ.{0} <| And.intro @List.cons_append.{0} <| And.intro @List.nil_append.{0} <| And.intro @List.append_nil.{0} <| And.intro @Nat.zero_add <| And.intro @Nat.add_zero <| And.intro @Nat.zero_lt_succ <| And.intro @Nat.lt_add_left_iff_pos <| @Nat.succ_pos
def lastA (l : Letter) : Tx := l.ans.getLast?.getD []
def want (ls : List Letter) (x : Tx) : Tx := match ls.find? fun l => decide (l.nm = x) with
  | some l => lastA l
  | none => best (toldL ls x)
theorem find_nm {ls : List Letter} (h : (ls.map (·.nm)).Nodup) {l : Letter} (hl : l ∈ ls) : ls.find? (fun m => decide (m.nm = l.nm)) = some l := by
  induction ls with
  | nil => cases hl
  | cons a ls ih =>
    rw [List.map_cons] at h
    obtain ⟨h1, h2⟩ := List.nodup_cons.mp h
    rcases List.mem_cons.mp hl with q | q
    · subst q
      rw [List.find?_cons_of_pos (by simp)]
    · have hne : a.nm ≠ l.nm := fun z => h1 (by rw [z]; exact List.mem_map_of_mem q)
      rw [List.find?_cons_of_neg (by simpa using hne)]
      exact ih h2 q
theorem want_nm {ls : List Letter} (h : (ls.map (·.nm)).Nodup) {l : Letter} (hl : l ∈ ls) : want ls l.nm = lastA l := by
  unfold want
  rw [find_nm h hl]
theorem want_gap {ls : List Letter} {x : Tx} (h : x ∉ ls.map (·.nm)) : want ls x = best (toldL ls x) := by
  unfold want
  have : ls.find? (fun l => decide (l.nm = x)) = none := by
    rw [List.find?_eq_none]
    intro l hl
    simp only [decide_eq_true_eq]
    exact fun z => h (by rw [← z]; exact List.mem_map_of_mem hl)
  rw [this]
/-- a dict of texts -/
def fD (ks : List Tx) (f : Tx → Tx) : Dat := .dic ks (ks.map fun k => .str (f k))
theorem e_rv_fDD {i : Nat} {ks : List Tx} {f : Tx → Tx} : rVar i (fD ks f) .deep = ⟨fD ks f, false, [i], some [i]⟩ := (rfl)
theorem e_rv_fDR {i : Nat} {ks : List Tx} {f : Tx → Tx} : rVar i (fD ks f) .root = ⟨fD ks f, false, [i], none⟩ := (rfl)
theorem e_rv_fDS {i : Nat} {ks : List Tx} {f : Tx → Tx} : rVar i (fD ks f) .shr = ⟨fD ks f, false, [i], none⟩ := (rfl)
theorem e_call_fD {rs : List Rs} {ks : List Tx} {f : Tx → Tx} : fCall2 rs (fD ks f, true) = .ok ⟨fD ks f, false, [], some []⟩ := (rfl)
theorem e_in_fD {neg : Bool} {x : Tx} {ks : List Tx} {f : Tx → Tx} {rt rt' : Bool} {s s' : List Nat} {m m' : Option (List Nat)} : gIn neg ⟨.str x, rt, s, m⟩ ⟨fD ks f, rt', s', m'⟩ = .ok ⟨.bl (if neg then !decide (x ∈ ks) else decide (x ∈ ks)), false, [], some []⟩ := e_in_dd
theorem e_list_fD {ks : List Tx} {f : Tx → Tx} {rt : Bool} {s : List Nat} {m : Option (List Nat)} : gList ⟨fD ks f, rt, s, m⟩ = .ok ⟨.lst (ks.map .str), true, [], some []⟩ := e_list_d
theorem e_len_fD {ks : List Tx} {f : Tx → Tx} {rt : Bool} {s : List Nat} {m : Option (List Nat)} : gLen ⟨fD ks f, rt, s, m⟩ = .ok ⟨.int ks.length, false, [], some []⟩ := (rfl)
theorem flat_fD (ks : List Tx) (f : Tx → Tx) : flatL (ks.map fun k => Dat.str (f k)) = true := by
  rw [flatL_all, List.all_eq_true]
  intro d hd
  obtain ⟨k, _, rfl⟩ := List.mem_map.mp hd
  rfl
theorem e_dict_fD {ks : List Tx} {f : Tx → Tx} {rt : Bool} {s : List Nat} {m : Option (List Nat)} : gDict ⟨fD ks f, rt, s, m⟩ = .ok ⟨fD ks f, true, [], some []⟩ := by
  show (if flatL (ks.map fun k => Dat.str (f k)) = true then _ else _) = _
  rw [flat_fD, if_pos rfl]
  rfl
theorem e_sub_fD {ks : List Tx} {f : Tx → Tx} {x : Tx} {rt rt' : Bool} {s s' : List Nat} {m m' : Option (List Nat)} (h : x ∈ ks) : gSubs ⟨fD ks f, rt, s, m⟩ ⟨.str x, rt', s', m'⟩ = .ok ⟨.str (f x), false, [], some []⟩ := e_subs_map h
theorem fD_congr {ks : List Tx} {f g : Tx → Tx} (h : ∀ k ∈ ks, f k = g k) : fD ks f = fD ks g := by
  unfold fD
  rw [List.map_congr_left (g := fun k => Dat.str (g k)) fun k hk => by rw [h k hk]]
theorem fD_get {ks : List Tx} {f : Tx → Tx} {x : Tx} (h : x ∈ ks) : dGet ks (ks.map fun k => .str (f k)) x = some (.str (f x)) := by
  rw [dGet_map, if_pos h]
def updT (f : Tx → Tx) (x v : Tx) : Tx → Tx := fun k => if k = x then v else f k
theorem fD_upd {ks : List Tx} {f : Tx → Tx} {x v : Tx} : (ks.map (updF (fun k => .str (f k)) x (.str v))) = ks.map fun k => .str (updT f x v k) := by
  refine List.map_congr_left fun k _ => ?_
  unfold updF updT
  split <;> rfl
/-- found[name] = text -/
theorem putT_ok {i : Nat} {fk fv : Sto → Res Rs} {E : Sto} {ks : List Tx} {f : Tx → Tx} {x v : Tx} {rt rt' : Bool} {s s' : List Nat} {m' : Option (List Nat)} (h : slot E i = some (fD ks f, .deep)) (hl : ks.length ≤ 1000000)
    (h1 : fv E = .ok ⟨.str v, rt, s, some []⟩) (h2 : fk E = .ok ⟨.str x, rt', s', m'⟩) : sPut i fk fv E = .ok (.nx (E.set i (some (fD (addK ks x) (updT f x v), .deep)))) := by
  rw [put_ok h hl (.inl rfl) h1 h2, fD_upd]
  rfl
theorem updT_same {f : Tx → Tx} {x : Tx} : updT f x (f x) = f := funext fun k => by
  unfold updT
  split
  · rename_i h
    rw [h]
  · rfl
theorem addK_new {ks : List Tx} {x : Tx} (h : x ∉ ks) : addK ks x = ks ++ [x] := if_neg h
theorem addK_old {ks : List Tx} {x : Tx} (h : x ∈ ks) : addK ks x = ks := if_pos h
/-- answers[-1] if answers != [] else "" -/
theorem lastE {l : Letter} {i : Nat} {E : Sto} {k : Kd} (h : slot E i = some (.lst (l.ans.map .str), .shr)) : fIf (tOf (fBin gNe (fVar i) (fLst aNil))) (fBin gSubs (fVar i) (fNeg (fC (.int 1)))) (fC (.str [])) E = .ok ⟨.str (lastA l), false, [], some []⟩ := by
  have l0 : (0 : Nat) ≤ 1000000 := by decide
  by_cases hz : l.ans.length = 0
  · have e : l.ans = [] := List.eq_nil_of_length_eq_zero hz
    have e2 : lastA l = [] := by unfold lastA; rw [e]; rfl
    simp only [pvs_Want, Nat.reduceSub, Nat.reduceAdd, Nat.reduceLT, Nat.reduceLeDiff, Nat.reduceEqDiff, decide_true, decide_false, Bool.not_true, Bool.not_false, reduceCtorEq, eq_self, if_true, if_false, h, l0, eqF_ln, hz, e2]
  · have hne : l.ans.map Dat.str ≠ [] := by
      intro z
      exact hz (by simpa using congrArg List.length z)
    have e1 : dAt (l.ans.map .str) (-1) = some (.str (lastA l)) := by
      rw [e_atL hne, List.getLast?_map]
      unfold lastA
      cases e : l.ans.getLast? with
      | none => exact absurd (List.getLast?_eq_none_iff.mp e) (fun z => hz (by rw [z]; rfl))
      | some a => rfl
    have e3 : -(1 : Int) = -1 := rfl
    simp only [pvs_Want, Nat.reduceSub, Nat.reduceAdd, Nat.reduceLT, Nat.reduceLeDiff, Nat.reduceEqDiff, decide_true, decide_false, Bool.not_true, Bool.not_false, reduceCtorEq, eq_self, if_true, if_false, h, l0, eqF_ln, hz, e3, e1]
def wantK (ls : List Letter) : List Tx := ls.map (·.nm) ++ (namesL ls).filter fun x => decide (x ∉ ls.map (·.nm))
theorem wantK_nodup {ls : List Letter} (h : (ls.map (·.nm)).Nodup) : (wantK ls).Nodup :=
  List.nodup_append.mpr ⟨h, (namesL_nodup ls).sublist List.filter_sublist, fun a ha b hb z => by
    have := (List.mem_filter.mp hb).2
    rw [← z] at this
    exact (of_decide_eq_true this) ha⟩
theorem mem_wantK {ls : List Letter} {x : Tx} : x ∈ wantK ls ↔ x ∈ namesL ls := by
  unfold wantK
  rw [List.mem_append, List.mem_filter]
  constructor
  · rintro (h | h)
    · obtain ⟨l, hl, rfl⟩ := List.mem_map.mp h
      exact mem_namesL.mpr ⟨l, hl, .inl rfl⟩
    · exact h.1
  · intro h
    by_cases hx : x ∈ ls.map (·.nm)
    · exact .inl hx
    · exact .inr ⟨h, decide_eq_true hx⟩
theorem wantK_perm {ls : List Letter} (h : (ls.map (·.nm)).Nodup) : (wantK ls).Perm (namesL ls) := perm_of (wantK_nodup h) (namesL_nodup ls) fun _ => mem_wantK
theorem wantedE {ls : List Letter} (h : LtsOk ls) : c_wanted_of [ltsD ls] = .ok (fD (wantK ls) (want ls), true) := by
  have hl9 := h.len
  have hfew := h.few
  have hnl := namesL_len hfew
  have h1 := forGo_pre (T := .many [2, 3, 4]) (g := b_wanted_of_1) ltD (fun pre E => ∃ x2 x3 x4, E = [some (.lst (ls.map ltD), .shr), some (fD (pre.map (·.nm)) (want ls), .deep), x2, x3, x4]) ls (E := [some (.lst (ls.map ltD), .shr), some (.dic [] [], .deep), none, none, none]) ?st ⟨none, none, none, rfl⟩
  case st =>
    rintro pre l post E hpre ⟨x2, x3, x4, rfl⟩
    have hl : l ∈ ls := by rw [hpre]; simp
    have hn : l.nm ∉ pre.map (·.nm) := fun z => by
      have := h.nod
      rw [hpre, List.map_append, List.map_cons] at this
      exact (List.nodup_append.mp this).2.2 _ z _ List.mem_cons_self rfl
    have hp := (hfew.pre hpre).len
    refine ⟨[some (.lst (ls.map ltD), .shr), some (fD (pre.map (·.nm)) (want ls), .deep), some (.str l.nm, .shr), some (.lst (l.ans.map .str), .shr), some (.str l.ttl, .shr)], _, rfl, .inl ?_, some (.str l.nm, .shr), some (.lst (l.ans.map .str), .shr), some (.str l.ttl, .shr), rfl⟩
    unfold b_wanted_of_1
    refine (putT_ok (x := l.nm) (v := lastA l) rfl (by rw [List.length_map]; omega) (lastE (k := .shr) rfl) rfl).trans ?_
    rw [← want_nm h.nod hl, updT_same, addK_new hn, List.map_append]
    rfl
  obtain ⟨E', h1, x2, x3, x4, rfl⟩ := h1
  have h2 := forGo_pre (T := .one 2) (g := b_wanted_of_2) Dat.str (fun pre E => ∃ x2, E = [some (.lst (ls.map ltD), .shr), some (fD (ls.map (·.nm) ++ pre.filter fun x => decide (x ∉ ls.map (·.nm))) (want ls), .deep), x2, x3, x4]) (namesL ls) (E := [some (.lst (ls.map ltD), .shr), some (fD (ls.map (·.nm)) (want ls), .deep), x2, x3, x4]) ?st2 ⟨x2, by rw [List.filter_nil, List.append_nil]⟩
  case st2 =>
    rintro pre x post E hpre ⟨x2, rfl⟩
    have hnp : x ∉ pre := fun z => by
      have := namesL_nodup ls
      rw [hpre] at this
      exact (List.nodup_append.mp this).2.2 _ z _ List.mem_cons_self rfl
    have hpl : pre.length ≤ 45 := by
      have := congrArg List.length hpre
      rw [List.length_append] at this
      omega
    have hfl : (pre.filter fun x => decide (x ∉ ls.map (·.nm))).length ≤ pre.length := List.length_filter_le _ _
    by_cases hx : x ∈ ls.map (·.nm)
    · have hm : x ∈ ls.map (·.nm) ++ pre.filter fun x => decide (x ∉ ls.map (·.nm)) := List.mem_append_left _ hx
      refine ⟨[some (.lst (ls.map ltD), .shr), some (fD (ls.map (·.nm) ++ pre.filter fun x => decide (x ∉ ls.map (·.nm))) (want ls), .deep), some (.str x, .shr), x3, x4], _, rfl, .inl ?_, some (.str x, .shr), rfl⟩
      have e : [x].filter (fun x => decide (x ∉ ls.map (·.nm))) = [] := by rw [List.filter_cons_of_neg (by simpa using hx)]; rfl
      rw [List.filter_append, e, List.append_nil]
      generalize ls.map (·.nm) ++ pre.filter (fun x => decide (x ∉ ls.map (·.nm))) = kk at hm
      unfold b_wanted_of_2 fD
      simp only [pvs_Want, Nat.reduceSub, Nat.reduceAdd, Nat.reduceLT, Nat.reduceLeDiff, Nat.reduceEqDiff, decide_true, decide_false, Bool.not_true, Bool.not_false, reduceCtorEq, eq_self, if_true, if_false, hm, e_cont]
    · have hm : x ∉ ls.map (·.nm) ++ pre.filter fun x => decide (x ∉ ls.map (·.nm)) := fun z => (List.mem_append.mp z).elim hx fun q => hnp (List.mem_filter.mp q).1
      refine ⟨[some (.lst (ls.map ltD), .shr), some (fD (ls.map (·.nm) ++ pre.filter fun x => decide (x ∉ ls.map (·.nm))) (want ls), .deep), some (.str x, .shr), x3, x4], _, rfl, .inl ?_, some (.str x, .shr), rfl⟩
      have e : [x].filter (fun x => decide (x ∉ ls.map (·.nm))) = [x] := by rw [List.filter_cons_of_pos (by simpa using hx)]; rfl
      rw [List.filter_append, e, ← List.append_assoc]
      have hkl : (ls.map (·.nm) ++ pre.filter fun x => decide (x ∉ ls.map (·.nm))).length ≤ 1000000 := by
        rw [List.length_append, List.length_map]
        omega
      generalize ls.map (·.nm) ++ pre.filter (fun x => decide (x ∉ ls.map (·.nm))) = kk at hm hkl
      have ht := tellE hfew (fun l hl => (h.all l hl).nod) x
      have e2 : fCall 2 c_told_parent (aCons (fVar 0) (aCons (fVar 2) aNil)) [some (.lst (ls.map ltD), .shr), some (fD kk (want ls), .deep), some (.str x, .shr), x3, x4] = .ok ⟨.str (best (toldL ls x)), false, [], some []⟩ := by
        unfold ltsD at ht
        simp only [pvs_Want, Nat.reduceSub, Nat.reduceAdd, Nat.reduceLT, Nat.reduceLeDiff, Nat.reduceEqDiff, decide_true, decide_false, Bool.not_true, Bool.not_false, reduceCtorEq, eq_self, if_true, if_false, ht]
      have e3 := putT_ok (i := 1) (fk := fVar 2) (x := x) (E := [some (.lst (ls.map ltD), .shr), some (fD kk (want ls), .deep), some (.str x, .shr), x3, x4]) rfl hkl e2 rfl
      rw [← want_gap hx, updT_same, addK_new hm] at e3
      unfold b_wanted_of_2
      unfold fD at e3 ⊢
      simp only [pvs_Want, Nat.reduceSub, Nat.reduceAdd, Nat.reduceLT, Nat.reduceLeDiff, Nat.reduceEqDiff, decide_true, decide_false, Bool.not_true, Bool.not_false, reduceCtorEq, eq_self, if_true, if_false, hm, e_cont, ↓e3]
  obtain ⟨E', h2, x2', rfl⟩ := h2
  unfold c_wanted_of g_wanted_of ltsD
  have hn := namesE hfew
  unfold ltsD at hn
  unfold fD at h1 h2 ⊢
  simp only [pvs_Want, Nat.reduceSub, Nat.reduceAdd, Nat.reduceLT, Nat.reduceLeDiff, Nat.reduceEqDiff, decide_true, decide_false, Bool.not_true, Bool.not_false, reduceCtorEq, eq_self, if_true, if_false, h1, hn, h2]
  rfl
end PV

/-! the law's own reading of where each name wants to stand -/
namespace PV
open PySem PySem.Spec L2
def pvs_LWant := And.intro @e_bok <| And.intro @e_bexc <| And.intro @fin_rt <| And.intro @fin_nx <| And.intro @fin_exc <| And.intro @run1 <| And.intro @run2 <| And.intro @run3 <| And.intro @run4 <| And.intro @e_seq <| And.intro @e_seq_nx <| And.intro @e_seq_rt <| And.intro @e_seq_bk <| And.intro @e_seq_ct <| And.intro @e_nil <| And.intro @e_pass <| And.intro @e_brk <| And.intro @e_cnt <| And.intro @e_retN <| And.intro @e_raise <| And.intro @e_drop <| And.intro @e_drop1 <| And.intro @e_ret <| And.intro @take_flat <| And.intro @e_ret_deep <| And.intro @e_ret_one <| And.intro @e_ret_none <| And.intro @e_if <| And.intro @e_if_t <| And.intro @e_if_f <| And.intro @e_set <| And.intro @e_set_deep <| And.intro @e_set_none <| And.intro @e_down_nil <| And.intro @e_wipe_nil <| And.intro @e_wipe <| And.intro @e_c <| And.intro @e_slot0 <| And.intro @e_slotS <| And.intro @e_var <| And.intro @e_var1 <| And.intro @e_rv_int <| And.intro @e_rv_str <| And.intro @e_rv_bl <| And.intro @e_rv_non <| And.intro @e_rv_lstD <| And.intro @e_rv_lstR <| And.intro @e_rv_lstS <| And.intro @e_rv_dicD <| And.intro @e_rv_dicR <| And.intro @e_rv_dicS <| And.intro @e_bin <| And.intro @e_bin1 <| And.intro @e_one <| And.intro @e_tOf <| And.intro @e_toB <| And.intro @e_tNot <| And.intro @e_tNot1 <| And.intro @e_tAnd <| And.intro @e_tOr <| And.intro @e_tAnd_t <| And.intro @e_tAnd_f <| And.intro @e_tOr_t <| And.intro @e_tOr_f <| And.intro @e_and <| And.intro @e_or <| And.intro @e_and_t <| And.intro @e_and_f <| And.intro @e_or_t <| And.intro @e_or_f <| And.intro @e_not <| And.intro @e_not1 <| And.intro @e_neg <| And.intro @e_neg1 <| And.intro @e_ife <| And.intro @e_ife_t <| And.intro @e_ife_f <| And.intro @e_aNil <| And.intro @e_aCons <| And.intro @e_aCons1 <| And.intro @e_aCons2 <| And.intro @e_tup <| And.intro @e_lst <| And.intro @e_tup1 <| And.intro @e_lst1 <| And.intro @e_src0 <| And.intro @e_srcS <| And.intro @e_mv0 <| And.intro @e_mvS <| And.intro @e_mvN <| And.intro @e_mvC <| And.intro @e_mvC0 <| And.intro @e_add_i <| And.intro @e_add_s <| And.intro @e_add_l <| And.intro @e_sub <| And.intro @e_mod <| And.intro @e_fdv <| And.intro @e_mul <| And.intro @e_mul_s <| And.intro @e_pow18 <| And.intro @e_lt <| And.intro @e_le <| And.intro @e_gt <| And.intro @e_ge <| And.intro @e_eq <| And.intro @e_ne <| And.intro @e_eq1 <| And.intro @e_ne1 <| And.intro @eqF_s <| And.intro @eqF_i <| And.intro @eqF_b <| And.intro @eqF_ln <| And.intro @eqF_rn <| And.intro @e_in_s <| And.intro @e_in_l <| And.intro @e_in_r <| And.intro @e_in_t <| And.intro @e_in_d <| And.intro @e_in1 <| And.intro @e_rsB_f <| And.intro @e_rsB_t <| And.intro @e_pick_s <| And.intro @e_pick_i <| And.intro @e_pick_b <| And.intro @e_pick_l <| And.intro @e_pick_d <| And.intro @e_subs_l <| And.intro @e_subs_r <| And.intro @e_subs_t <| And.intro @e_subs_s <| And.intro @e_subs_d <| And.intro @e_subs1 <| And.intro @e_subsS <| And.intro @e_oNone <| And.intro @e_oSome <| And.intro @e_oSome1 <| And.intro @e_sl <| And.intro @e_sl1 <| And.intro @e_sl2 <| And.intro @e_sl_s <| And.intro @e_sl_l <| And.intro @e_sl_r <| And.intro @e_newL <| And.intro @e_newN <| And.intro @e_len_l <| And.intro @e_len_r <| And.intro @e_len_t <| And.intro @e_len_d <| And.intro @e_len_s <| And.intro @e_sum <| And.intro @e_all <| And.intro @e_any <| And.intro @e_m1 <| And.intro @e_m11 <| And.intro @e_startsw <| And.intro @e_strip <| And.intro @e_lstrip <| And.intro @e_split <| And.intro @e_join <| And.intro @e_iOf <| And.intro @e_it_l <| And.intro @e_it_r <| And.intro @e_it_t <| And.intro @e_it_s <| And.intro @e_range1 <| And.intro @e_rg1 <| And.intro @e_for <| And.intro @e_for1 <| And.intro @e_tTrue <| And.intro @e_step <| And.intro @e_step_t <| And.intro @e_step_f <| And.intro @e_step2 <| And.intro @e_bind1 <| And.intro @e_call <| And.intro @e_call1 <| And.intro @e_call_s <| And.intro @e_call_i <| And.intro @e_call_b <| And.intro @e_call_n <| And.intro @e_call_l <| And.intro @e_call_d <| And.intro @e_isi_s <| And.intro @e_cut_hi <| And.intro @e_cut_lo <| And.intro @e_cut_mid <| And.intro @e_cut_last <| And.intro @e_cut_init <| And.intro @e_rv_rol <| And.intro @e_par <| And.intro @e_par2 <| And.intro @e_par3 <| And.intro @e_wh1_t <| And.intro @e_wh1_f <| And.intro @e_wh2_nx <| And.intro @e_wh2_ct <| And.intro @e_wh2_bk <| And.intro @e_wh2_rt <| And.intro @e_sorted_s <| And.intro @e_list_d <| And.intro @e_sorted_t <| And.intro @e_sortSet_s <| And.intro @e_lenSet_s <| And.intro @e_min_s <| And.intro @e_max_i <| And.intro @e_chain <| And.intro @e_chain1 <| And.intro @e_chain2 <| And.intro @e_chain_t <| And.intro @e_chain_f <| And.intro @e_isi_l <| And.intro @e_isi_t <| And.intro @e_isi_ss <| And.intro @e_rv_tupF <| And.intro @e_rv_tupS <| And.intro @e_rv_tupD <| And.intro @e_pick_tF <| And.intro @e_pick_tS <| And.intro @e_call_tF <| And.intro @e_call_lS <| And.intro @e_flat0 <| And.intro @e_flat_s <| And.intro @e_flat_i <| And.intro @e_flat_b <| And.intro @e_flat_n <| And.intro @e_flat_l <| And.intro @e_newLs <| And.intro @e_newLi <| And.intro @e_at0 <| And.intro @e_at1 <| And.intro @e_at2 <| And.intro @e_at3 <| And.intro @e_atL <| And.intro @e_subs_map <| And.intro @e_put <| And.intro @e_get2 <| And.intro @e_lm <| And.intro @e_lidx <| And.intro @e_lcnt <| And.intro @e_max2 <| And.intro @e_cont <| And.intro @e_any_ss <| And.intro @e_in_ss <| And.intro @e_in_dd <| And.intro @e_rev_l <| And.intro @e_list_l <| And.intro @e_ne0 <| And.intro @e_dic0 <| And.intro @e_down_cons <| And.intro @e_down_some <| And.intro @e_down_none <| And.intro @e_unp <| And.intro @e_unp2 <| And.intro @e_unp3 <| And.intro @e_keys <| And.intro @e_bindL0 <| And.intro @e_bindLS <| And.intro @e_rv_fDD <| And.intro @e_rv_fDR <| And.intro @e_rv_fDS <| And.intro @e_call_fD <| And.intro @e_in_fD <| And.intro @e_list_fD <| And.intro @e_len_fD <| And.intro @e_dict_fD <| And.intro @e_sub_fD <| And.intro @List.length_cons.{0} <| And.intro @List.length_map.{0,0} <| And.intro @List.length_nil.{0} <| And.intro @List.map_cons.{0,0} <| And.intro @List.map_nil.{0,0} <| And.intro @List.replicate_succ.{0} <| And.intro @List.replicate_zero.{0} <| And.intro @List.set_cons_zero.{0} <| And.intro @List.set_cons_succ.{0} <| And.intro @List.cons_append.{0} <| And.intro @List.nil_append.{0} <| And.intro @List.append_nil.{0} <| And.intro @Nat.zero_add <| And.intro @Nat.add_zero <| And.intro @Nat.zero_lt_succ <| And.intro @Nat.lt_add_left_iff_pos <| @Nat.succ_pos
/-- neighbours in a list -/
def nbrs (l : List Tx) : List (Tx × Tx) := l.zip (l.drop 1)
def nbD (p : Tx × Tx) : Dat := .tup [.str p.1, .str p.2]
theorem zip_nbrs : ∀ (l m : List Tx), zipD (l.map .str) (m.map .str) = (l.zip m).map nbD
  | [], _ => by cases ‹List Tx› <;> rfl
  | _ :: _, [] => rfl
  | a :: l, b :: m => by
    rw [List.map_cons, List.map_cons, List.zip_cons_cons, List.map_cons]
    show Dat.tup [.str a, .str b] :: zipD (l.map .str) (m.map .str) = _
    rw [zip_nbrs l m]
    rfl
theorem nbrs_snd : ∀ l : List Tx, (nbrs l).map (·.2) = l.drop 1
  | [] => rfl
  | [_] => rfl
  | a :: b :: l => by
    have ih := nbrs_snd (b :: l)
    unfold nbrs at ih ⊢
    show b :: ((b :: l).zip ((b :: l).drop 1)).map (·.2) = _
    rw [ih]
    rfl
theorem nbrs_told : ∀ {l : List Tx}, l.Nodup → ∀ x, ((nbrs l).filter fun p => decide (p.2 = x)).map (·.1) = if x ∈ l.drop 1 then (l[l.idxOf x - 1]?).toList else []
  | [], _, x => by simp [nbrs]
  | [a], _, x => by simp [nbrs]
  | a :: b :: l, n, x => by
    obtain ⟨n1, n2⟩ := List.nodup_cons.mp n
    have ih := nbrs_told n2 x
    have e : nbrs (a :: b :: l) = (a, b) :: nbrs (b :: l) := rfl
    rw [e]
    by_cases hb : b = x
    · subst hb
      have hnb : b ∉ l := (List.nodup_cons.mp n2).1
      rw [List.filter_cons_of_pos (by simp), List.map_cons, ih]
      have h1 : b ∉ (b :: l).drop 1 := hnb
      have hne : a ≠ b := fun z => n1 (z ▸ List.mem_cons_self)
      rw [if_neg h1, if_pos (show b ∈ (a :: b :: l).drop 1 from List.mem_cons_self), List.idxOf_cons, show (a == b) = false from beq_eq_false_iff_ne.mpr hne]
      simp
    · rw [List.filter_cons_of_neg (by simpa using hb), ih]
      by_cases hx : x ∈ l
      · have hne : a ≠ x := fun z => n1 (z ▸ List.mem_cons_of_mem _ hx)
        rw [if_pos (show x ∈ (b :: l).drop 1 from hx), if_pos (show x ∈ (a :: b :: l).drop 1 from List.mem_cons_of_mem _ hx)]
        have i1 : (a :: b :: l).idxOf x = (b :: l).idxOf x + 1 := by
          rw [List.idxOf_cons, show (a == x) = false from beq_eq_false_iff_ne.mpr hne]
          rfl
        have i2 : (b :: l).idxOf x = l.idxOf x + 1 := by
          rw [List.idxOf_cons, show (b == x) = false from beq_eq_false_iff_ne.mpr hb]
          rfl
        rw [i1, i2]
        simp
      · have h1 : x ∉ (b :: l).drop 1 := hx
        have h2 : x ∉ (a :: b :: l).drop 1 := fun z => (List.mem_cons.mp z).elim (fun q => hb q.symm) hx
        rw [if_neg h1, if_neg h2]
theorem toldL_one {l : Letter} (n : l.ans.Nodup) (x : Tx) : toldL [l] x = ((nbrs l.ans).filter fun p => decide (p.2 = x)).map (·.1) := by
  rw [nbrs_told n]
  unfold toldL
  rw [List.filterMap_cons]
  by_cases h : x ∈ l.ans.drop 1
  · rw [if_pos h, if_pos h]
    cases l.ans[l.ans.idxOf x - 1]? <;> rfl
  · rw [if_neg h, if_neg h]
    rfl
/-- a dict of lists of texts -/
def fL (ks : List Tx) (f : Tx → List Tx) : Dat := .dic ks (ks.map fun k => .lst ((f k).map .str))
def updL (f : Tx → List Tx) (x : Tx) (v : List Tx) : Tx → List Tx := fun k => if k = x then v else f k
theorem fL_congr {ks : List Tx} {f g : Tx → List Tx} (h : ∀ k ∈ ks, f k = g k) : fL ks f = fL ks g := by
  unfold fL
  rw [List.map_congr_left (g := fun k => Dat.lst ((g k).map .str)) fun k hk => by rw [h k hk]]
theorem fL_get {ks : List Tx} {f : Tx → List Tx} {x : Tx} (h : x ∈ ks) : dGet ks (ks.map fun k => .lst ((f k).map .str)) x = some (.lst ((f x).map .str)) := by
  rw [dGet_map, if_pos h]
theorem putL_ok {i : Nat} {fk fv : Sto → Res Rs} {E : Sto} {ks : List Tx} {f : Tx → List Tx} {x : Tx} {v : List Tx} {rt rt' : Bool} {s s' : List Nat} {m' : Option (List Nat)} (h : slot E i = some (fL ks f, .deep)) (hl : ks.length ≤ 1000000) (hn : ks.Nodup)
    (h1 : fv E = .ok ⟨.lst (v.map .str), rt, s, some []⟩) (h2 : fk E = .ok ⟨.str x, rt', s', m'⟩) : sPut i fk fv E = .ok (.nx (E.set i (some (fL (addK ks x) (updL f x v), .deep)))) := by
  rw [put_ok h hl (.inr hn) h1 h2]
  unfold fL
  rw [List.map_congr_left (g := fun k => Dat.lst ((updL f x v k).map .str)) fun k _ => by unfold updF updL; split <;> rfl]
theorem foldl_addK_mem : ∀ {xs ks : List Tx} {y : Tx}, y ∈ xs.foldl addK ks ↔ y ∈ ks ∨ y ∈ xs
  | [], ks, y => by simp
  | x :: xs, ks, y => by
    rw [List.foldl_cons, foldl_addK_mem, mem_addK, List.mem_cons, or_assoc]
theorem foldl_addK_nodup : ∀ {xs ks : List Tx}, ks.Nodup → (xs.foldl addK ks).Nodup
  | [], _, h => h
  | x :: xs, _, h => foldl_addK_nodup (xs := xs) (nodup_addK h)
theorem foldl_addK_len : ∀ {xs ks : List Tx}, (xs.foldl addK ks).length ≤ ks.length + xs.length
  | [], _ => by simp
  | x :: xs, ks => by
    rw [List.foldl_cons]
    have := foldl_addK_len (xs := xs) (ks := addK ks x)
    have := len_addK (ks := ks) (x := x)
    simp only [List.length_cons]
    omega
/-- the keys of what is told; the names that are answered -/
def tKeys (ls : List Letter) : List Tx := (ls.flatMap fun l => l.ans.drop 1).foldl addK []
def aKeys (ls : List Letter) : List Tx := (ls.flatMap fun l => l.ans).foldl addK []
theorem flat_len {f : Letter → List Tx} : ∀ {ls : List Letter}, (∀ l ∈ ls, (f l).length ≤ 4) → (ls.flatMap f).length ≤ 4 * ls.length
  | [], _ => by simp
  | l :: ls, h => by
    have ih := flat_len (ls := ls) fun x hx => h x (List.mem_cons_of_mem _ hx)
    have h1 := h l List.mem_cons_self
    rw [List.flatMap_cons, List.length_append]
    simp only [List.length_cons]
    omega
theorem addK_idem_list : ∀ {xs ks : List Tx}, (∀ x ∈ xs, x ∈ ks) → xs.foldl addK ks = ks
  | [], _, _ => rfl
  | x :: xs, ks, h => by
    rw [List.foldl_cons, addK_old (h x List.mem_cons_self)]
    exact addK_idem_list fun y hy => h y (List.mem_cons_of_mem _ hy)
theorem told_none {ls : List Letter} {x : Tx} (h : x ∉ tKeys ls) : toldL ls x = [] := by
  unfold toldL
  rw [List.filterMap_eq_nil_iff]
  intro l hl
  have : x ∉ l.ans.drop 1 := fun z => h (foldl_addK_mem.mpr (.inr (List.mem_flatMap.mpr ⟨l, hl, z⟩)))
  rw [if_neg this]
theorem told_some {ls : List Letter} (hn : ∀ l ∈ ls, l.ans.Nodup) {x : Tx} (h : x ∈ tKeys ls) : toldL ls x ≠ [] := by
  rcases foldl_addK_mem.mp h with z | z
  · cases z
  · obtain ⟨l, hl, hx⟩ := List.mem_flatMap.mp z
    obtain ⟨_, _, _, y, hy⟩ := idx_ahead (hn l hl) hx
    intro e
    unfold toldL at e
    rw [List.filterMap_eq_nil_iff] at e
    have := e l hl
    rw [if_pos hx, hy] at this
    cases this
/-- the most that stands there, and the least of those -/
theorem pickE {l : List Tx} (h : l ≠ []) (hl : l.length ≤ 100) {E : Sto} {x : Tx} {ks : List Tx} {f : Tx → List Tx} {k3 : Kd} {k2 : Kd} {n : Nat} (h0 : 9 < n) (hE : E.length = n) (h2 : slot E 2 = some (fL ks f, .shr)) (h3 : slot E 3 = some (.str x, k3)) (hx : x ∈ ks) (hf : f x = l) :
    (∃ mx : Int, fOne gMax (fComp (.one 6) [6] (iOf (fBin gSubs (fVar 2) (fVar 3))) tTrue y__law_wanted_1) E = .ok ⟨.int mx, false, [], some []⟩ ∧
      ∀ E' : Sto, E'.length = n → slot E' 2 = some (fL ks f, .shr) → slot E' 3 = some (.str x, k3) → slot E' 9 = some (.int mx, .deep) → fBin gSubs (fOne gSorted (fComp (.one 6) [6] (iOf (fBin gSubs (fVar 2) (fVar 3))) q__law_wanted_1 y__law_wanted_2)) (fC (.int 0)) E' = .ok ⟨.str (best l), false, [], some []⟩) := by
  have hi : ∀ E' : Sto, slot E' 2 = some (fL ks f, .shr) → slot E' 3 = some (.str x, k3) → iOf (fBin gSubs (fVar 2) (fVar 3)) E' = .ok (l.map Dat.str, [2]) := by
    intro E' g2 g3
    unfold fL at g2
    simp only [pvs_LWant, Nat.reduceSub, Nat.reduceAdd, Nat.reduceLT, Nat.reduceLeDiff, Nat.reduceEqDiff, decide_true, decide_false, Bool.not_true, Bool.not_false, reduceCtorEq, eq_self, if_true, if_false, g2, g3, fL_get hx, hf]
  have hcnt : ∀ (E' : Sto) (a : Tx), E'.length = n → slot E' 2 = some (fL ks f, .shr) → slot E' 3 = some (.str x, k3) → fLM gLCnt (fBin gSubs (fVar 2) (fVar 3)) (fVar 6) ((wipeE E' [6]).set 6 (some (.str a, .shr))) = .ok ⟨.int (l.countP fun y => decide (y = a)), false, [], some []⟩ := by
    intro E' a g0 g2 g3
    have w2 : slot ((wipeE E' [6]).set 6 (some (.str a, .shr))) 2 = some (fL ks f, .shr) := by
      rw [slot_set (by show 6 < (E'.set 6 none).length; rw [List.length_set]; omega)]
      show slot (E'.set 6 none) 2 = _
      rw [slot_set_none]
      exact g2
    have w3 : slot ((wipeE E' [6]).set 6 (some (.str a, .shr))) 3 = some (.str x, k3) := by
      rw [slot_set (by show 6 < (E'.set 6 none).length; rw [List.length_set]; omega)]
      show slot (E'.set 6 none) 3 = _
      rw [slot_set_none]
      exact g3
    have w6 : slot ((wipeE E' [6]).set 6 (some (.str a, .shr))) 6 = some (.str a, .shr) := by
      rw [slot_set (by show 6 < (E'.set 6 none).length; rw [List.length_set]; omega)]
      rfl
    generalize (wipeE E' [6]).set 6 (some (.str a, .shr)) = E1 at w2 w3 w6
    unfold fL at w2
    have e1 : fBin gSubs (fVar 2) (fVar 3) E1 = .ok ⟨.lst (l.map .str), false, [2], none⟩ := by
      simp only [pvs_LWant, Nat.reduceSub, Nat.reduceAdd, Nat.reduceLT, Nat.reduceLeDiff, Nat.reduceEqDiff, decide_true, decide_false, Bool.not_true, Bool.not_false, reduceCtorEq, eq_self, if_true, if_false, w2, w3, fL_get hx, hf]
    rw [e_lm e1]
    simp only [pvs_LWant, Nat.reduceSub, Nat.reduceAdd, Nat.reduceLT, Nat.reduceLeDiff, Nat.reduceEqDiff, decide_true, decide_false, Bool.not_true, Bool.not_false, reduceCtorEq, eq_self, if_true, if_false, w6, e_lcnt]
  have hbind : ∀ (E' : Sto) (a : Tx), E'.length = n → bindT (.one 6) (.str a) (wipeE E' [6]) = some ((wipeE E' [6]).set 6 (some (.str a, .shr))) := by
    intro E' a g0
    exact e_bind1 (by show 6 < (E'.set 6 none).length; rw [List.length_set]; omega)
  obtain ⟨s, hc⟩ := comp_flat0 (T := .one 6) (own := [6]) (fi := iOf (fBin gSubs (fVar 2) (fVar 3))) (fe := y__law_wanted_1) (E := E) (xs := l) (e := Dat.str) (l := [2]) (fun a => .int (l.countP fun y => decide (y = a))) (hi E h2 h3) (by omega) (fun a _ => ⟨_, hbind E a hE, false, [], hcnt E a hE h2 h3⟩)
  cases hl0 : l with
  | nil => exact absurd hl0 h
  | cons a r =>
    have em : (l.map fun a => Dat.int ((l.countP fun y => decide (y = a) : Nat) : Int)) = (((l.countP fun y => decide (y = a) : Nat) : Int) :: r.map fun a => ((l.countP fun y => decide (y = a) : Nat) : Int)).map .int := by
      have : (l.map fun a => Dat.int ((l.countP fun y => decide (y = a) : Nat) : Int)) = (l.map fun a => ((l.countP fun y => decide (y = a) : Nat) : Int)).map .int := by rw [List.map_map]; rfl
      rw [this]
      congr 1
      conv => lhs; arg 2; rw [hl0]
      rfl
    rw [em] at hc
    have hlen : l.length = r.length + 1 := by rw [hl0]; rfl
    have hmx := fun rt s m => e_max_i (rt := rt) (s := s) (m := m) (x := ((l.countP fun y => decide (y = a) : Nat) : Int)) (xs := r.map fun a => ((l.countP fun y => decide (y = a) : Nat) : Int)) (by rw [List.length_map]; omega)
    obtain ⟨m1, m2⟩ := maxI_spec (r.map fun a => ((l.countP fun y => decide (y = a) : Nat) : Int)) ((l.countP fun y => decide (y = a) : Nat) : Int)
    have hmm : (((l.countP fun y => decide (y = a) : Nat) : Int) :: r.map fun a => ((l.countP fun y => decide (y = a) : Nat) : Int)) = l.map fun a => ((l.countP fun y => decide (y = a) : Nat) : Int) := by
      conv => rhs; arg 2; rw [hl0]
      rfl
    rw [hmm] at m1 m2
    generalize maxI ((l.countP fun y => decide (y = a) : Nat) : Int) (r.map fun a => ((l.countP fun y => decide (y = a) : Nat) : Int)) = mx at hmx m1 m2
    refine ⟨mx, by rw [e_one, hc, e_bok, hmx], fun E' g0 g2 g3 g9 => ?_⟩
    have hcp : ∀ b, l.countP (fun y => decide (y = b)) = l.count b := fun b => by
      unfold List.count
      congr 1
      funext y
      by_cases hy : y = b
      · simp [hy]
      · simp [hy]
    obtain ⟨s2, hc2⟩ := comp_flat (T := .one 6) (own := [6]) (fi := iOf (fBin gSubs (fVar 2) (fVar 3))) (ft := q__law_wanted_1) (fe := y__law_wanted_2) (E := E') (xs := l) (e := Dat.str) (l := [2]) (fun a => decide (((l.countP fun y => decide (y = a) : Nat) : Int) = mx)) (fun a => .str a) (hi E' g2 g3) (by omega) (fun a _ => ⟨_, hbind E' a g0, by
      have w9 : slot ((wipeE E' [6]).set 6 (some (.str a, .shr))) 9 = some (.int mx, .deep) := by
        rw [slot_set (by show 6 < (E'.set 6 none).length; rw [List.length_set]; omega)]
        show slot (E'.set 6 none) 9 = _
        rw [slot_set_none]
        exact g9
      have := hcnt E' a g0 g2 g3
      unfold q__law_wanted_1
      generalize (wipeE E' [6]).set 6 (some (.str a, .shr)) = E1 at this w9
      simp only [pvs_LWant, Nat.reduceSub, Nat.reduceAdd, Nat.reduceLT, Nat.reduceLeDiff, Nat.reduceEqDiff, decide_true, decide_false, Bool.not_true, Bool.not_false, reduceCtorEq, eq_self, if_true, if_false, ↓this, w9, eqF_i], fun _ => ⟨false, [], by
      have w6 : slot ((wipeE E' [6]).set 6 (some (.str a, .shr))) 6 = some (.str a, .shr) := by
        rw [slot_set (by show 6 < (E'.set 6 none).length; rw [List.length_set]; omega)]
        rfl
      unfold y__law_wanted_2
      generalize (wipeE E' [6]).set 6 (some (.str a, .shr)) = E1 at w6
      simp only [pvs_LWant, Nat.reduceSub, Nat.reduceAdd, Nat.reduceLT, Nat.reduceLeDiff, Nat.reduceEqDiff, decide_true, decide_false, Bool.not_true, Bool.not_false, reduceCtorEq, eq_self, if_true, if_false, w6]⟩⟩)
    have hb := best_ok h
    have hmem : best l ∈ l.filter fun a => decide (((l.countP fun y => decide (y = a) : Nat) : Int) = mx) := by
      refine List.mem_filter.mpr ⟨hb.mem, decide_eq_true ?_⟩
      obtain ⟨b, hb1, hb2⟩ := List.mem_map.mp m1
      have q1 := m2 _ (List.mem_map_of_mem hb.mem)
      have q2 := hb.most b hb1
      simp only [hcp] at q1 hb2 ⊢
      omega
    obtain ⟨rr, hr⟩ := sort_head hmem fun y hy => by
      obtain ⟨y1, y2⟩ := List.mem_filter.mp hy
      obtain ⟨_, b2⟩ := List.mem_filter.mp hmem
      have y2 := of_decide_eq_true y2
      have b2 := of_decide_eq_true b2
      simp only [hcp] at y2 b2
      exact hb.least y y1 (by omega)
    have hfl : (l.filter fun a => decide (((l.countP fun y => decide (y = a) : Nat) : Int) = mx)).length ≤ 1000000 := Nat.le_trans (List.length_filter_le _ _) (by omega)
    rw [e_bin, e_one, hc2, e_bok]
    have es := fun rt s m => e_sorted_s (rt := rt) (s := s) (m := m) hfl
    have em2 : ((l.filter fun a => decide (((l.countP fun y => decide (y = a) : Nat) : Int) = mx)).map fun a => Dat.str a) = (l.filter fun a => decide (((l.countP fun y => decide (y = a) : Nat) : Int) = mx)).map .str := rfl
    rw [em2, es, hr, e_bok, e_bin1, e_c, e_bok, List.map_cons, e_subs_l, e_at0, hl0]
    rfl
theorem lwantedE {ls : List Letter} (h : LtsOk ls) : ∃ ks, ks.Nodup ∧ (∀ x, x ∈ ks ↔ x ∈ namesL ls) ∧ c__law_wanted [ltsD ls] = .ok (fD ks (want ls), true) := by
  have hl9 := h.len
  have hfew := h.few
  have hnod : ∀ l ∈ ls, l.ans.Nodup := fun l hl => (h.all l hl).nod
  have dl : ∀ {pre post : List Letter}, ls = pre ++ post → (tKeys pre).length ≤ 36 ∧ (aKeys pre).length ≤ 36 := fun {pre post} e => by
    have hp := hfew.pre e
    have h1 := flat_len (f := fun l => l.ans.drop 1) (ls := pre) fun l hl => by
      have := hp.few l hl
      simp only [List.length_drop]
      omega
    have h2 := flat_len (f := fun l => l.ans) (ls := pre) hp.few
    have h3 := foldl_addK_len (xs := pre.flatMap fun l => l.ans.drop 1) (ks := [])
    have h4 := foldl_addK_len (xs := pre.flatMap fun l => l.ans) (ks := [])
    have := hp.len
    unfold tKeys aKeys
    simp only [List.length_nil] at h3 h4
    omega
  -- all letters
  have h1 := forGo_pre (T := .many [3, 4, 5]) (g := b__law_wanted_3) ltD (fun pre E => ∃ x3 x4 x5 x6 x7 x8, E = [some (.lst (ls.map ltD), .shr), some (fD (aKeys pre) (fun _ => []), .deep), some (fL (tKeys pre) (toldL pre), .deep), x3, x4, x5, x6, x7, x8, none]) ls (E := [some (.lst (ls.map ltD), .shr), some (.dic [] [], .deep), some (.dic [] [], .deep), none, none, none, none, none, none, none]) ?st ⟨none, none, none, none, none, none, rfl⟩
  case st =>
    rintro pre l post E hpre ⟨x3, x4, x5, x6, x7, x8, rfl⟩
    have hl : l ∈ ls := by rw [hpre]; simp
    have l4 := hfew.few l hl
    obtain ⟨d1, d2⟩ := dl hpre
    -- pairs
    have p1 := forGo_pre (T := .many [6, 7]) (g := b__law_wanted_1) nbD (fun pp E => ∃ x6 x7, E = [some (.lst (ls.map ltD), .shr), some (fD (aKeys pre) (fun _ => []), .deep), some (fL ((pp.map (·.2)).foldl addK (tKeys pre)) (fun x => toldL pre x ++ (pp.filter fun p => decide (p.2 = x)).map (·.1)), .deep), some (.str l.nm, .shr), some (.lst (l.ans.map .str), .shr), some (.str l.ttl, .shr), x6, x7, x8, none]) (nbrs l.ans)
      (E := [some (.lst (ls.map ltD), .shr), some (fD (aKeys pre) (fun _ => []), .deep), some (fL (tKeys pre) (toldL pre), .deep), some (.str l.nm, .shr), some (.lst (l.ans.map .str), .shr), some (.str l.ttl, .shr), x6, x7, x8, none]) ?st2 ⟨x6, x7, by
        simp⟩
    case st2 =>
      rintro pp p qq E hpp ⟨x6, x7, rfl⟩
      have hlen : pp.length ≤ 3 := by
        have h1 := congrArg List.length hpp
        have h2 : (nbrs l.ans).length ≤ l.ans.length := by
          unfold nbrs
          rw [List.length_zip]
          omega
        rw [List.length_append, List.length_cons] at h1
        omega
      have hkl : ((pp.map (·.2)).foldl addK (tKeys pre)).length ≤ 1000000 := by
        have := foldl_addK_len (xs := pp.map (·.2)) (ks := tKeys pre)
        rw [List.length_map] at this
        omega
      have hkn : ((pp.map (·.2)).foldl addK (tKeys pre)).Nodup := foldl_addK_nodup (foldl_addK_nodup List.Pairwise.nil)
      have hnotin : p.2 ∉ (pp.map (·.2)).foldl addK (tKeys pre) → toldL pre p.2 ++ (pp.filter fun q => decide (q.2 = p.2)).map (·.1) = [] := fun hx => by
        rw [told_none (fun z => hx (foldl_addK_mem.mpr (.inl z)))]
        have : pp.filter (fun q => decide (q.2 = p.2)) = [] := by
          rw [List.filter_eq_nil_iff]
          intro q hq
          simp only [decide_eq_true_eq]
          exact fun z => hx (foldl_addK_mem.mpr (.inr (by rw [← z]; exact List.mem_map_of_mem hq)))
        rw [this]
        rfl
      refine ⟨[some (.lst (ls.map ltD), .shr), some (fD (aKeys pre) (fun _ => []), .deep), some (fL ((pp.map (·.2)).foldl addK (tKeys pre)) (fun x => toldL pre x ++ (pp.filter fun p => decide (p.2 = x)).map (·.1)), .deep), some (.str l.nm, .shr), some (.lst (l.ans.map .str), .shr), some (.str l.ttl, .shr), some (.str p.1, .shr), some (.str p.2, .shr), x8, none], _, rfl, .inl ?_, some (.str p.1, .shr), some (.str p.2, .shr), rfl⟩
      unfold b__law_wanted_1
      have hw : (toldL pre p.2 ++ (pp.filter fun q => decide (q.2 = p.2)).map (·.1)).length ≤ 100 := by
        have := toldL_len pre p.2
        have := (hfew.pre hpre).len
        have := List.length_filter_le (fun q : Tx × Tx => decide (q.2 = p.2)) pp
        rw [List.length_append, List.length_map]
        omega
      have e1 : ∀ ks f w8, (p.2 ∉ ks → f p.2 = []) → (f p.2).length ≤ 100 → fBin gAdd (fGet2 (fVar 2) (fVar 7) (fLst aNil)) (fLst (aCons (fVar 6) aNil)) [some (.lst (ls.map ltD), .shr), some (fD (aKeys pre) (fun _ => []), .deep), some (fL ks f, .deep), some (.str l.nm, .shr), some (.lst (l.ans.map .str), .shr), some (.str l.ttl, .shr), some (.str p.1, .shr), some (.str p.2, .shr), w8, none] = .ok ⟨.lst ((f p.2 ++ [p.1]).map .str), true, [2], some []⟩ ∨ fBin gAdd (fGet2 (fVar 2) (fVar 7) (fLst aNil)) (fLst (aCons (fVar 6) aNil)) [some (.lst (ls.map ltD), .shr), some (fD (aKeys pre) (fun _ => []), .deep), some (fL ks f, .deep), some (.str l.nm, .shr), some (.lst (l.ans.map .str), .shr), some (.str l.ttl, .shr), some (.str p.1, .shr), some (.str p.2, .shr), w8, none] = .ok ⟨.lst ((f p.2 ++ [p.1]).map .str), true, [], some []⟩ := by
        intro ks f w8 hf hlf
        by_cases hx : p.2 ∈ ks
        · left
          rw [e_bin, e_get2 (x := p.2) (rc := ⟨.lst [], true, [], some []⟩) rfl rfl rfl]
          rw [fL_get hx]
          simp only [pvs_LWant, Nat.reduceSub, Nat.reduceAdd, Nat.reduceLT, Nat.reduceLeDiff, Nat.reduceEqDiff, decide_true, decide_false, Bool.not_true, Bool.not_false, reduceCtorEq, eq_self, if_true, if_false, (by decide : (1 : Nat) ≤ 1000000)]
          rw [e_add_l (by simp; omega)]
          have : (f p.2).map Dat.str ++ [Dat.str p.1] = (f p.2 ++ [p.1]).map .str := by rw [List.map_append]; rfl
          rw [this, e_newLs]
          rfl
        · right
          rw [e_bin, e_get2 (x := p.2) (rc := ⟨.lst [], true, [], some []⟩) rfl rfl rfl]
          rw [dGet_map, if_neg hx, hf hx]
          rfl
      have e2 : ∃ sr, fBin gAdd (fGet2 (fVar 2) (fVar 7) (fLst aNil)) (fLst (aCons (fVar 6) aNil)) [some (.lst (ls.map ltD), .shr), some (fD (aKeys pre) (fun _ => []), .deep), some (fL ((pp.map (·.2)).foldl addK (tKeys pre)) (fun x => toldL pre x ++ (pp.filter fun p => decide (p.2 = x)).map (·.1)), .deep), some (.str l.nm, .shr), some (.lst (l.ans.map .str), .shr), some (.str l.ttl, .shr), some (.str p.1, .shr), some (.str p.2, .shr), x8, none] = .ok ⟨.lst (((toldL pre p.2 ++ (pp.filter fun q => decide (q.2 = p.2)).map (·.1)) ++ [p.1]).map .str), true, sr, some []⟩ := by
        rcases e1 _ (fun x => toldL pre x ++ (pp.filter fun p => decide (p.2 = x)).map (·.1)) x8 hnotin hw with z | z
        · exact ⟨_, z⟩
        · exact ⟨_, z⟩
      obtain ⟨sr, e2⟩ := e2
      refine (putL_ok (x := p.2) rfl hkl hkn e2 rfl).trans ?_
      have e3 : (pp ++ [p]).map (·.2) = pp.map (·.2) ++ [p.2] := by rw [List.map_append]; rfl
      rw [e3, List.foldl_append]
      have e4 : fL (addK ((pp.map (·.2)).foldl addK (tKeys pre)) p.2) (updL (fun x => toldL pre x ++ (pp.filter fun p => decide (p.2 = x)).map (·.1)) p.2 ((toldL pre p.2 ++ (pp.filter fun q => decide (q.2 = p.2)).map (·.1)) ++ [p.1])) = fL (addK ((pp.map (·.2)).foldl addK (tKeys pre)) p.2) (fun x => toldL pre x ++ ((pp ++ [p]).filter fun p => decide (p.2 = x)).map (·.1)) := by
        refine fL_congr fun k _ => ?_
        unfold updL
        by_cases hk : k = p.2
        · subst hk
          rw [if_pos rfl, List.filter_append, List.map_append, List.append_assoc]
          congr 2
          rw [List.filter_cons_of_pos (by simp)]
          rfl
        · rw [if_neg hk, List.filter_append]
          have : [p].filter (fun q => decide (q.2 = k)) = [] := by rw [List.filter_cons_of_neg (by simpa using fun z => hk z.symm)]; rfl
          rw [this, List.append_nil]
      rw [e4]
      rfl
    obtain ⟨E', p1, y6, y7, rfl⟩ := p1
    -- names answered
    have p2 := forGo_pre (T := .one 8) (g := b__law_wanted_2) Dat.str (fun pp E => ∃ x8, E = [some (.lst (ls.map ltD), .shr), some (fD (pp.foldl addK (aKeys pre)) (fun _ => []), .deep), some (fL (((nbrs l.ans).map (·.2)).foldl addK (tKeys pre)) (fun x => toldL pre x ++ ((nbrs l.ans).filter fun p => decide (p.2 = x)).map (·.1)), .deep), some (.str l.nm, .shr), some (.lst (l.ans.map .str), .shr), some (.str l.ttl, .shr), y6, y7, x8, none]) l.ans
      (E := [some (.lst (ls.map ltD), .shr), some (fD (aKeys pre) (fun _ => []), .deep), some (fL (((nbrs l.ans).map (·.2)).foldl addK (tKeys pre)) (fun x => toldL pre x ++ ((nbrs l.ans).filter fun p => decide (p.2 = x)).map (·.1)), .deep), some (.str l.nm, .shr), some (.lst (l.ans.map .str), .shr), some (.str l.ttl, .shr), y6, y7, x8, none]) ?st3 ⟨x8, rfl⟩
    case st3 =>
      rintro pp a qq E hpp ⟨x8, rfl⟩
      have hlen : pp.length ≤ 4 := by
        have h1 := congrArg List.length hpp
        rw [List.length_append, List.length_cons] at h1
        omega
      have hkl : (pp.foldl addK (aKeys pre)).length ≤ 1000000 := by
        have := foldl_addK_len (xs := pp) (ks := aKeys pre)
        omega
      rw [List.foldl_append]
      refine ⟨[some (.lst (ls.map ltD), .shr), some (fD (pp.foldl addK (aKeys pre)) (fun _ => []), .deep), some (fL (((nbrs l.ans).map (·.2)).foldl addK (tKeys pre)) (fun x => toldL pre x ++ ((nbrs l.ans).filter fun p => decide (p.2 = x)).map (·.1)), .deep), some (.str l.nm, .shr), some (.lst (l.ans.map .str), .shr), some (.str l.ttl, .shr), y6, y7, some (.str a, .shr), none], _, rfl, .inl ?_, some (.str a, .shr), rfl⟩
      unfold b__law_wanted_2
      refine (setd_ok (x := a) (v := .str []) rfl hkl rfl rfl).trans ?_
      by_cases ha : a ∈ pp.foldl addK (aKeys pre)
      · rw [if_pos ha]
        show _ = Res.ok (Fl.nx [_, some (fD (addK _ a) _, _), _, _, _, _, _, _, _, _])
        rw [addK_old ha]
      · rw [if_neg ha, fD_upd]
        have : updT (fun _ => []) a [] = fun _ => [] := updT_same (f := fun _ => [])
        rw [this]
        rfl
    obtain ⟨E', p2, y8, rfl⟩ := p2
    have ek1 : l.ans.foldl addK (aKeys pre) = aKeys (pre ++ [l]) := by
      unfold aKeys
      rw [List.flatMap_append, List.foldl_append]
      simp
    have ek2 : ((nbrs l.ans).map (·.2)).foldl addK (tKeys pre) = tKeys (pre ++ [l]) := by
      rw [nbrs_snd]
      unfold tKeys
      rw [List.flatMap_append, List.foldl_append]
      simp
    have ek3 : (fun x => toldL pre x ++ ((nbrs l.ans).filter fun p => decide (p.2 = x)).map (·.1)) = toldL (pre ++ [l]) := by
      funext x
      rw [toldL_app, toldL_one (hnod l hl)]
    rw [ek2, ek3] at p1 p2
    rw [ek1] at p2
    refine ⟨[some (.lst (ls.map ltD), .shr), some (fD (aKeys pre) (fun _ => []), .deep), some (fL (tKeys pre) (toldL pre), .deep), some (.str l.nm, .shr), some (.lst (l.ans.map .str), .shr), some (.str l.ttl, .shr), x6, x7, x8, none], _, rfl, .inl ?_, some (.str l.nm, .shr), some (.lst (l.ans.map .str), .shr), some (.str l.ttl, .shr), y6, y7, y8, rfl⟩
    have z1 : iZipF (fVar 4) (fSl (fVar 4) (oSome (fC (.int 1))) oNone) [some (.lst (ls.map ltD), .shr), some (fD (aKeys pre) (fun _ => []), .deep), some (fL (tKeys pre) (toldL pre), .deep), some (.str l.nm, .shr), some (.lst (l.ans.map .str), .shr), some (.str l.ttl, .shr), x6, x7, x8, none] = .ok ((nbrs l.ans).map nbD, [4, 4]) := by
      have l1 : l.ans.length ≤ 1000000 := by omega
      have e2 : (l.ans.map Dat.str).drop (1 : Int).toNat = (l.ans.drop 1).map .str := by rw [List.map_drop]; rfl
      have e3 : (0 : Int) ≤ 1 := by decide
      have ea : fVar 4 [some (.lst (ls.map ltD), .shr), some (fD (aKeys pre) (fun _ => []), .deep), some (fL (tKeys pre) (toldL pre), .deep), some (.str l.nm, .shr), some (.lst (l.ans.map .str), .shr), some (.str l.ttl, .shr), x6, x7, x8, none] = .ok ⟨.lst (l.ans.map .str), false, [4], none⟩ := rfl
      have eb : fSl (fVar 4) (oSome (fC (.int 1))) oNone [some (.lst (ls.map ltD), .shr), some (fD (aKeys pre) (fun _ => []), .deep), some (fL (tKeys pre) (toldL pre), .deep), some (.str l.nm, .shr), some (.lst (l.ans.map .str), .shr), some (.str l.ttl, .shr), x6, x7, x8, none] = .ok ⟨.lst ((l.ans.drop 1).map .str), true, [4], some []⟩ := by
        simp only [pvs_LWant, Nat.reduceSub, Nat.reduceAdd, Nat.reduceLT, Nat.reduceLeDiff, Nat.reduceEqDiff, decide_true, decide_false, Bool.not_true, Bool.not_false, reduceCtorEq, eq_self, if_true, if_false, l1, e3, e2]
      unfold iZipF
      rw [ea, bind_ok, eb, bind_ok]
      show Res.ok (zipD (l.ans.map .str) ((l.ans.drop 1).map .str), _) = _
      rw [zip_nbrs]
      rfl
    unfold b__law_wanted_3
    unfold fD fL at z1 p1 p2 ⊢
    simp only [pvs_LWant, Nat.reduceSub, Nat.reduceAdd, Nat.reduceLT, Nat.reduceLeDiff, Nat.reduceEqDiff, decide_true, decide_false, Bool.not_true, Bool.not_false, reduceCtorEq, eq_self, if_true, if_false, ↓z1, p1, p2]
  obtain ⟨E', h1, x3, x4, x5, x6, x7, x8, rfl⟩ := h1
  obtain ⟨d1, d2⟩ := dl (pre := ls) (post := []) (by simp)
  have htn : (tKeys ls).Nodup := foldl_addK_nodup List.Pairwise.nil
  have han : (aKeys ls).Nodup := foldl_addK_nodup List.Pairwise.nil
  have hta : ∀ x ∈ tKeys ls, x ∈ aKeys ls := fun x hx => by
    rcases foldl_addK_mem.mp hx with z | z
    · cases z
    · obtain ⟨l, hl, hm⟩ := List.mem_flatMap.mp z
      exact foldl_addK_mem.mpr (.inr (List.mem_flatMap.mpr ⟨l, hl, List.mem_of_mem_drop hm⟩))
  -- gaps
  have h2 := forGo_pre (T := .one 3) (g := b__law_wanted_4) Dat.str (fun pp E => ∃ x3 x9, E = [some (.lst (ls.map ltD), .shr), some (fD (aKeys ls) (fun k => if k ∈ pp then best (toldL ls k) else []), .deep), some (fL (tKeys ls) (toldL ls), .shr), x3, x4, x5, x6, x7, x8, x9]) (tKeys ls)
    (E := [some (.lst (ls.map ltD), .shr), some (fD (aKeys ls) (fun _ => []), .deep), some (fL (tKeys ls) (toldL ls), .shr), x3, x4, x5, x6, x7, x8, none]) ?st4 ⟨x3, none, by simp⟩
  case st4 =>
    rintro pp x qq E hpp ⟨x3, x9, rfl⟩
    have hx : x ∈ tKeys ls := by rw [hpp]; simp
    have hne := told_some hnod hx
    have hll : (toldL ls x).length ≤ 100 := by
      have := toldL_len ls x
      omega
    obtain ⟨mx, g1, g2⟩ := pickE (n := 10) (x := x) (ks := tKeys ls) (f := toldL ls) (k3 := .shr) (k2 := .shr) (E := [some (.lst (ls.map ltD), .shr), some (fD (aKeys ls) (fun k => if k ∈ pp then best (toldL ls k) else []), .deep), some (fL (tKeys ls) (toldL ls), .shr), some (.str x, .shr), x4, x5, x6, x7, x8, x9]) hne hll (by decide) rfl rfl rfl hx rfl
    refine ⟨[some (.lst (ls.map ltD), .shr), some (fD (aKeys ls) (fun k => if k ∈ pp then best (toldL ls k) else []), .deep), some (fL (tKeys ls) (toldL ls), .shr), some (.str x, .shr), x4, x5, x6, x7, x8, x9], _, rfl, .inl ?_, some (.str x, .shr), some (.int mx, .deep), rfl⟩
    have g3 := g2 [some (.lst (ls.map ltD), .shr), some (fD (aKeys ls) (fun k => if k ∈ pp then best (toldL ls k) else []), .deep), some (fL (tKeys ls) (toldL ls), .shr), some (.str x, .shr), x4, x5, x6, x7, x8, some (.int mx, .deep)] rfl rfl rfl rfl
    have g4 := putT_ok (i := 1) (fk := fVar 3) (x := x) (ks := aKeys ls) rfl (by omega) g3 rfl
    have e5 : fD (addK (aKeys ls) x) (updT (fun k => if k ∈ pp then best (toldL ls k) else []) x (best (toldL ls x))) = fD (aKeys ls) (fun k => if k ∈ pp ++ [x] then best (toldL ls k) else []) := by
      rw [addK_old (hta x hx)]
      refine fD_congr fun k _ => ?_
      unfold updT
      by_cases hk : k = x
      · rw [if_pos hk, hk, if_pos (by simp)]
      · rw [if_neg hk]
        show (if k ∈ pp then best (toldL ls k) else []) = _
        by_cases hkp : k ∈ pp
        · rw [if_pos hkp, if_pos (by simp [hkp])]
        · rw [if_neg hkp, if_neg (by simp [hkp, hk])]
    rw [e5] at g4
    unfold b__law_wanted_4
    simp only [pvs_LWant, Nat.reduceSub, Nat.reduceAdd, Nat.reduceLT, Nat.reduceLeDiff, Nat.reduceEqDiff, decide_true, decide_false, Bool.not_true, Bool.not_false, reduceCtorEq, eq_self, if_true, if_false, ↓g1, ↓g4]
  obtain ⟨E', h2, y3, y9, rfl⟩ := h2
  have e6 : fD (aKeys ls) (fun k => if k ∈ tKeys ls then best (toldL ls k) else []) = fD (aKeys ls) (fun k => best (toldL ls k)) := fD_congr fun k _ => by
    by_cases hk : k ∈ tKeys ls
    · rw [if_pos hk]
    · rw [if_neg hk, told_none hk]
      rfl
  rw [e6] at h2
  -- letters
  have h3 := forGo_pre (T := .many [3, 4, 5]) (g := b__law_wanted_5) ltD (fun pre E => ∃ x3 x4 x5, E = [some (.lst (ls.map ltD), .shr), some (fD ((pre.map (·.nm)).foldl addK (aKeys ls)) (fun k => if k ∈ pre.map (·.nm) then want ls k else best (toldL ls k)), .deep), some (fL (tKeys ls) (toldL ls), .shr), x3, x4, x5, x6, x7, x8, y9]) ls
    (E := [some (.lst (ls.map ltD), .shr), some (fD (aKeys ls) (fun k => best (toldL ls k)), .deep), some (fL (tKeys ls) (toldL ls), .shr), y3, x4, x5, x6, x7, x8, y9]) ?st5 ⟨y3, x4, x5, by simp⟩
  case st5 =>
    rintro pre l post E hpre ⟨x3, x4, x5, rfl⟩
    have hl : l ∈ ls := by rw [hpre]; simp
    have hp := (hfew.pre hpre).len
    have hkl : ((pre.map (·.nm)).foldl addK (aKeys ls)).length ≤ 1000000 := by
      have := foldl_addK_len (xs := pre.map (·.nm)) (ks := aKeys ls)
      rw [List.length_map] at this
      omega
    refine ⟨[some (.lst (ls.map ltD), .shr), some (fD ((pre.map (·.nm)).foldl addK (aKeys ls)) (fun k => if k ∈ pre.map (·.nm) then want ls k else best (toldL ls k)), .deep), some (fL (tKeys ls) (toldL ls), .shr), some (.str l.nm, .shr), some (.lst (l.ans.map .str), .shr), some (.str l.ttl, .shr), x6, x7, x8, y9], _, rfl, .inl ?_, some (.str l.nm, .shr), some (.lst (l.ans.map .str), .shr), some (.str l.ttl, .shr), rfl⟩
    unfold b__law_wanted_5
    refine (putT_ok (x := l.nm) (v := lastA l) rfl hkl (lastE (k := .shr) rfl) rfl).trans ?_
    have e7 : fD (addK ((pre.map (·.nm)).foldl addK (aKeys ls)) l.nm) (updT (fun k => if k ∈ pre.map (·.nm) then want ls k else best (toldL ls k)) l.nm (lastA l)) = fD (((pre ++ [l]).map (·.nm)).foldl addK (aKeys ls)) (fun k => if k ∈ (pre ++ [l]).map (·.nm) then want ls k else best (toldL ls k)) := by
      rw [List.map_append, List.foldl_append]
      refine fD_congr fun k _ => ?_
      unfold updT
      by_cases hk : k = l.nm
      · rw [if_pos hk, hk, if_pos (by simp), want_nm h.nod hl]
      · rw [if_neg hk]
        show (if k ∈ pre.map (·.nm) then want ls k else best (toldL ls k)) = _
        by_cases hkp : k ∈ pre.map (·.nm)
        · rw [if_pos hkp, if_pos (List.mem_append_left _ hkp)]
        · rw [if_neg hkp, if_neg (fun z => (List.mem_append.mp z).elim hkp fun q => hk (by simpa using q))]
    rw [e7]
    rfl
  obtain ⟨E', h3, z3, z4, z5, rfl⟩ := h3
  have e8 : fD ((ls.map (·.nm)).foldl addK (aKeys ls)) (fun k => if k ∈ ls.map (·.nm) then want ls k else best (toldL ls k)) = fD ((ls.map (·.nm)).foldl addK (aKeys ls)) (want ls) := fD_congr fun k _ => by
    by_cases hk : k ∈ ls.map (·.nm)
    · rw [if_pos hk]
    · rw [if_neg hk, want_gap hk]
  rw [e8] at h3
  refine ⟨(ls.map (·.nm)).foldl addK (aKeys ls), foldl_addK_nodup han, fun x => ?_, ?_⟩
  · rw [foldl_addK_mem, mem_namesL]
    constructor
    · rintro (q | q)
      · rcases foldl_addK_mem.mp q with z | z
        · cases z
        · obtain ⟨l, hl, hm⟩ := List.mem_flatMap.mp z
          exact ⟨l, hl, .inr hm⟩
      · obtain ⟨l, hl, rfl⟩ := List.mem_map.mp q
        exact ⟨l, hl, .inl rfl⟩
    · rintro ⟨l, hl, rfl | q⟩
      · exact .inr (List.mem_map_of_mem hl)
      · exact .inl (foldl_addK_mem.mpr (.inr (List.mem_flatMap.mpr ⟨l, hl, q⟩)))
  · have h2' := forD_of (T := .one 3) (i := 2) (g := b__law_wanted_4) (ks := tKeys ls) (k := .deep) (E := [some (.lst (ls.map ltD), .shr), some (fD (aKeys ls) (fun _ => []), .deep), some (fL (tKeys ls) (toldL ls), .deep), x3, x4, x5, x6, x7, x8, none]) rfl h2
    unfold c__law_wanted g__law_wanted ltsD
    unfold fD fL at h1 h2' h3
    unfold fD
    simp only at h1 h2' h3
    simp only [pvs_LWant, Nat.reduceSub, Nat.reduceAdd, Nat.reduceLT, Nat.reduceLeDiff, Nat.reduceEqDiff, decide_true, decide_false, Bool.not_true, Bool.not_false, reduceCtorEq, eq_self, if_true, if_false, (by decide : (2 : Nat) ≤ 1000000), h1, ↓h2', h3]
    rfl
end PV

/-! rings: a name's line by steps; the plain law -/
namespace PV
open PySem PySem.Spec L2
def it (f : Tx → Tx) : Nat → Tx → Tx
  | 0, x => x
  | n + 1, x => f (it f n x)
theorem it_add (f : Tx → Tx) (a : Nat) : ∀ (b : Nat) (x : Tx), it f (a + b) x = it f a (it f b x) := by
  intro b x
  induction a with
  | zero => rw [Nat.zero_add]; rfl
  | succ a ih => rw [Nat.succ_add]; show f (it f (a + b) x) = f _; rw [ih]
theorem it_succ' (f : Tx → Tx) (n : Nat) (x : Tx) : it f (n + 1) x = it f n (f x) := it_add f n 1 x
theorem it_period {f : Tx → Tx} {p : Nat} {x : Tx} (h : it f p x = x) : ∀ k, it f (p * k) x = x
  | 0 => rfl
  | k + 1 => by rw [Nat.mul_succ, it_add, h, it_period h k]
theorem it_mod {f : Tx → Tx} {p : Nat} {x : Tx} (h : it f p x = x) (n : Nat) : it f n x = it f (n % p) x := by
  have e : n = n % p + p * (n / p) := (Nat.mod_add_div n p).symm
  conv => lhs; rw [e]
  rw [it_add, it_period h]
/-- comes round to itself -/
def OnCyc (f : Tx → Tx) (x : Tx) : Prop := (∃ p, 0 < p ∧ it f p x = x) ∧ ∀ j, it f j x ≠ []
/-- .. and is the least of its ring -/
def IsMin (f : Tx → Tx) (x : Tx) : Prop := OnCyc f x ∧ ∀ j, ltT (it f j x) x = false
theorem OnCyc.back {f : Tx → Tx} {x : Tx} (h : OnCyc f x) (j : Nat) : ∃ k, it f k (it f j x) = x := by
  obtain ⟨⟨p, hp, e⟩, _⟩ := h
  refine ⟨p * (j + 1) - j, ?_⟩
  rw [← it_add]
  have : p * (j + 1) - j + j = p * (j + 1) := by
    have : j ≤ p * (j + 1) := Nat.le_trans (Nat.le_succ j) (Nat.le_mul_of_pos_left _ hp)
    omega
  rw [this, it_period e]
theorem OnCyc.next {f : Tx → Tx} {x : Tx} (h : OnCyc f x) (j : Nat) : OnCyc f (it f j x) := by
  obtain ⟨⟨p, hp, e⟩, n⟩ := h
  refine ⟨⟨p, hp, ?_⟩, fun i => ?_⟩
  · rw [← it_add, Nat.add_comm, it_add, e]
  · rw [← it_add]
    exact n _
theorem IsMin.uniq {f : Tx → Tx} {x : Tx} (h : IsMin f x) {j : Nat} (h2 : IsMin f (it f j x)) : it f j x = x := by
  obtain ⟨k, hk⟩ := h.1.back j
  have h3 := h2.2 k
  rw [hk] at h3
  exact ltT_tot (h.2 j) h3
open Classical in
/-- where each name stands: rings cut at the least name -/
noncomputable def par (f : Tx → Tx) (x : Tx) : Tx := if IsMin f x then [] else f x
/-- a path that ends stays one if a name is put at the top -/
theorem ends_upd {f : Tx → Tx} {r : Tx} : ∀ (n : Nat) (y : Tx), it f n y = [] → ∃ m, it (updT f r []) m y = []
  | 0, y, h => ⟨0, h⟩
  | n + 1, y, h => by
    by_cases hy : y = r
    · exact ⟨1, if_pos hy⟩
    · rw [it_succ'] at h
      obtain ⟨m, hm⟩ := ends_upd (r := r) n (f y) h
      refine ⟨m + 1, ?_⟩
      rw [it_succ']
      have : updT f r [] y = f y := if_neg hy
      rw [this]
      exact hm
theorem reach_upd {f : Tx → Tx} {r : Tx} : ∀ (n : Nat) (y : Tx), it f n y = r → ∃ m, it (updT f r []) m y = []
  | 0, y, h => ⟨1, if_pos h⟩
  | n + 1, y, h => by
    by_cases hy : y = r
    · exact ⟨1, if_pos hy⟩
    · rw [it_succ'] at h
      obtain ⟨m, hm⟩ := reach_upd (r := r) n (f y) h
      refine ⟨m + 1, ?_⟩
      rw [it_succ']
      have : updT f r [] y = f y := if_neg hy
      rw [this]
      exact hm
/-- the first steps -/
def steps (f : Tx → Tx) (x : Tx) (m : Nat) : List Tx := (List.range m).map fun j => it f j x
theorem steps_len {f : Tx → Tx} {x : Tx} {m : Nat} : (steps f x m).length = m := by
  unfold steps
  rw [List.length_map, List.length_range]
theorem steps_succ {f : Tx → Tx} {x : Tx} {m : Nat} : steps f x (m + 1) = steps f x m ++ [it f m x] := by
  unfold steps
  rw [List.range_succ, List.map_append]
  rfl
theorem mem_steps {f : Tx → Tx} {x y : Tx} {m : Nat} : y ∈ steps f x m ↔ ∃ j, j < m ∧ it f j x = y := by
  unfold steps
  rw [List.mem_map]
  constructor
  · rintro ⟨j, hj, e⟩
    exact ⟨j, List.mem_range.mp hj, e⟩
  · rintro ⟨j, hj, e⟩
    exact ⟨j, List.mem_range.mpr hj, e⟩
theorem steps_at {f : Tx → Tx} {x : Tx} {m j : Nat} (h : j < m) : (steps f x m)[j]? = some (it f j x) := by
  unfold steps
  rw [List.getElem?_map, List.getElem?_range h]
  rfl
/-- what keeps to a list of names -/
structure Clo (ks : List Tx) (f : Tx → Tx) : Prop where
  nod : ks.Nodup
  ne : [] ∉ ks
  cl : ∀ x ∈ ks, f x = [] ∨ f x ∈ ks
theorem len_le_of {l ks : List Tx} (h : l.Nodup) (hs : ∀ x ∈ l, x ∈ ks) : l.length ≤ ks.length := by
  induction l generalizing ks with
  | nil => exact Nat.zero_le _
  | cons a l ih =>
    obtain ⟨h1, h2⟩ := List.nodup_cons.mp h
    have ha := hs a List.mem_cons_self
    have := ih h2 (ks := ks.erase a) fun x hx => by
      have hne : x ≠ a := fun z => h1 (by rw [← z]; exact hx)
      exact (List.mem_erase_of_ne hne).mpr (hs x (List.mem_cons_of_mem _ hx))
    rw [List.length_erase_of_mem ha] at this
    have : 0 < ks.length := List.length_pos_of_mem ha
    simp only [List.length_cons]
    omega
/-- a line ends at the top or meets itself, in few steps -/
theorem line_ends {ks : List Tx} {f : Tx → Tx} (c : Clo ks f) {x : Tx} : ∀ (d m : Nat), m + d = ks.length → (steps f x m).Nodup → (∀ j, j < m → it f j x ∈ ks) → (it f m x = [] ∨ it f m x ∈ ks) →
    ∃ M, m ≤ M ∧ M ≤ ks.length ∧ (∀ j, j < M → it f j x ∈ ks) ∧ (steps f x M).Nodup ∧ (it f M x = [] ∨ it f M x ∈ steps f x M) ∧ ∀ j, m ≤ j → j < M → it f j x ≠ [] ∧ it f j x ∉ steps f x j := by
  intro d
  induction d with
  | zero =>
    intro m hm hn hk hx
    by_cases hs : it f m x = [] ∨ it f m x ∈ steps f x m
    · exact ⟨m, Nat.le_refl _, by omega, hk, hn, hs, fun j h1 h2 => by omega⟩
    · exfalso
      have h1 : it f m x ≠ [] := fun z => hs (.inl z)
      have h2 : it f m x ∉ steps f x m := fun z => hs (.inr z)
      have h3 := hx.resolve_left h1
      have h4 : (steps f x (m + 1)).Nodup := by
        rw [steps_succ]
        exact List.nodup_append.mpr ⟨hn, by simp, fun a ha b hb z => h2 (by
          rw [List.mem_singleton] at hb
          rw [← hb, ← z]
          exact ha)⟩
      have h5 := len_le_of (ks := ks) h4 fun y hy => by
        obtain ⟨j, hj, e⟩ := mem_steps.mp hy
        rcases Nat.lt_succ_iff_lt_or_eq.mp hj with q | q
        · rw [← e]
          exact hk j q
        · rw [← e, q]
          exact h3
      rw [steps_len] at h5
      omega
  | succ d ih =>
    intro m hm hn hk hx
    by_cases hs : it f m x = [] ∨ it f m x ∈ steps f x m
    · exact ⟨m, Nat.le_refl _, by omega, hk, hn, hs, fun j h1 h2 => by omega⟩
    · have h1 : it f m x ≠ [] := fun z => hs (.inl z)
      have h2 : it f m x ∉ steps f x m := fun z => hs (.inr z)
      have h3 := hx.resolve_left h1
      have h4 : (steps f x (m + 1)).Nodup := by
        rw [steps_succ]
        exact List.nodup_append.mpr ⟨hn, by simp, fun a ha b hb z => h2 (by
          rw [List.mem_singleton] at hb
          rw [← hb, ← z]
          exact ha)⟩
      obtain ⟨M, q1, q2, q3, q4, q5, q6⟩ := ih (m + 1) (by omega) h4 (fun j hj => by
        rcases Nat.lt_succ_iff_lt_or_eq.mp hj with q | q
        · exact hk j q
        · rw [q]
          exact h3) (c.cl _ h3)
      refine ⟨M, by omega, q2, q3, q4, q5, fun j g1 g2 => ?_⟩
      by_cases hj : j = m
      · subst hj
        exact ⟨h1, h2⟩
      · exact q6 j (by omega) g2
/-- what ring_of tells -/
structure RingOf (ks : List Tx) (f : Tx → Tx) (x : Tx) (R : List Tx) : Prop where
  top : R = [] → ∃ n, it f n x = []
  ring : R ≠ [] → ∃ i p, 0 < p ∧ R = steps f (it f i x) p ∧ it f p (it f i x) = it f i x ∧ (∀ j, it f j x ∈ ks)
theorem ringOf_ex {ks : List Tx} {f : Tx → Tx} (c : Clo ks f) {x : Tx} (hx : x ∈ ks) : ∃ M, M ≤ ks.length ∧ (∀ j, j < M → it f j x ∈ ks ∧ it f j x ≠ [] ∧ it f j x ∉ steps f x j) ∧ (it f M x = [] ∨ it f M x ∈ steps f x M) ∧
    RingOf ks f x (if it f M x = [] then [] else (steps f x M).drop ((steps f x M).idxOf (it f M x))) := by
  obtain ⟨M, q1, q2, q3, q4, q5, q6⟩ := line_ends c (x := x) ks.length 0 (by omega) List.Pairwise.nil (fun j hj => by omega) (.inr hx)
  refine ⟨M, q2, fun j hj => ⟨q3 j hj, (q6 j (Nat.zero_le _) hj).1, (q6 j (Nat.zero_le _) hj).2⟩, q5, ?_⟩
  by_cases h : it f M x = []
  · rw [if_pos h]
    exact ⟨fun _ => ⟨M, h⟩, fun z => absurd rfl z⟩
  · rw [if_neg h]
    have hm := q5.resolve_left h
    have hi : (steps f x M).idxOf (it f M x) < M := by
      have := List.idxOf_lt_length_of_mem hm
      rwa [steps_len] at this
    have hget : (steps f x M)[(steps f x M).idxOf (it f M x)]? = some (it f M x) := by
      have hl := List.idxOf_lt_length_of_mem hm
      rw [List.getElem?_eq_getElem hl, List.getElem_idxOf hl]
    generalize (steps f x M).idxOf (it f M x) = i at hi hget
    rw [steps_at hi] at hget
    injection hget with hget
    have hR : (steps f x M).drop i = steps f (it f i x) (M - i) := by
      refine List.ext_getElem? fun j => ?_
      rw [List.getElem?_drop]
      by_cases hj : j < M - i
      · rw [steps_at (by omega), steps_at hj, ← it_add, Nat.add_comm]
      · rw [List.getElem?_eq_none (by rw [steps_len]; omega), List.getElem?_eq_none (by rw [steps_len]; omega)]
    have hper : it f (M - i) (it f i x) = it f i x := by
      rw [← it_add, Nat.sub_add_cancel (Nat.le_of_lt hi), hget]
    refine ⟨fun z => ?_, fun _ => ⟨i, M - i, by omega, hR, hper, fun j => ?_⟩⟩
    · have := congrArg List.length z
      rw [hR, steps_len] at this
      simp at this
      omega
    · by_cases hj : j < i
      · exact q3 j (by omega)
      · have e : j = (j - i) + i := by omega
        rw [e, it_add, it_mod hper, ← it_add]
        have : (j - i) % (M - i) < M - i := Nat.mod_lt _ (by omega)
        exact q3 _ (by omega)
/-! ### cutting rings, name by name -/
/-- how far the rings have been cut -/
structure Cut (ks : List Tx) (w f : Tx → Tx) (done : List Tx) : Prop where
  a : ∀ x, f x = w x ∨ (f x = [] ∧ IsMin w x)
  b : ∀ y ∈ done, ∃ n, it f n y = []
theorem Cut.clo {ks : List Tx} {w f : Tx → Tx} {done : List Tx} (c : Cut ks w f done) (cw : Clo ks w) : Clo ks f :=
  ⟨cw.nod, cw.ne, fun x hx => (c.a x).elim (fun e => e ▸ cw.cl x hx) fun e => .inl e.1⟩
theorem Cut.start {ks : List Tx} {w : Tx → Tx} : Cut ks w w [] := ⟨fun _ => .inl rfl, fun _ z => nomatch z⟩
theorem Cut.keep {ks : List Tx} {w f : Tx → Tx} {done : List Tx} (c : Cut ks w f done) {x : Tx} (h : ∃ n, it f n x = []) : Cut ks w f (done ++ [x]) :=
  ⟨c.a, fun y hy => (List.mem_append.mp hy).elim (c.b y) fun z => by
    rw [List.mem_singleton] at z
    rw [z]
    exact h⟩
theorem Cut.cut {ks : List Tx} {w f : Tx → Tx} {done : List Tx} (c : Cut ks w f done) (cw : Clo ks w) {x r : Tx} {R : List Tx} {i p : Nat} (hp : 0 < p) (hR : R = steps f (it f i x) p) (hper : it f p (it f i x) = it f i x) (hin : ∀ j, it f j x ∈ ks)
    (hr : r ∈ R) (hmin : ∀ y ∈ R, ltT y r = false) : Cut ks w (updT f r []) (done ++ [x]) ∧ r ∈ ks := by
  subst hR
  obtain ⟨a, ha, ea⟩ := mem_steps.mp hr
  have hne : ∀ j, it f j x ≠ [] := fun j z => cw.ne (by rw [← z]; exact hin j)
  -- r's own line
  have hrx : r = it f (a + i) x := by rw [it_add, ea]
  have hrk : r ∈ ks := by rw [hrx]; exact hin _
  have hrj : ∀ j, it f j r = it f (j + (a + i)) x := fun j => by rw [hrx, ← it_add]
  have hsame : ∀ j, it w j r = it f j r := by
    intro j
    induction j with
    | zero => rfl
    | succ j ih =>
      show w (it w j r) = f (it f j r)
      rw [ih]
      rcases c.a (it f j r) with e | ⟨e, _⟩
      · rw [e]
      · exfalso
        have : it f (j + 1) r = [] := e
        rw [hrj] at this
        exact hne _ this
  have hrper : it f p r = r := by
    rw [← ea, ← it_add, Nat.add_comm, it_add, hper]
  have hmin2 : ∀ j, it f j r ∈ steps f (it f i x) p := fun j => by
    have : it f j r = it f ((j + a) % p) (it f i x) := by
      rw [← ea, ← it_add, it_mod hper]
    exact mem_steps.mpr ⟨(j + a) % p, Nat.mod_lt _ hp, this.symm⟩
  have hM : IsMin w r := ⟨⟨⟨p, hp, by rw [hsame, hrper]⟩, fun j => by rw [hsame, hrj]; exact hne _⟩, fun j => by
    rw [hsame]
    exact hmin _ (hmin2 j)⟩
  refine ⟨⟨fun y => ?_, fun y hy => ?_⟩, hrk⟩
  · by_cases h : y = r
    · right
      subst h
      exact ⟨if_pos rfl, hM⟩
    · have : updT f r [] y = f y := if_neg h
      rw [this]
      exact c.a y
  · rcases List.mem_append.mp hy with q | q
    · obtain ⟨n, hn⟩ := c.b y q
      exact ends_upd n y hn
    · rw [List.mem_singleton] at q
      rw [q]
      exact reach_upd (a + i) x hrx.symm
/-- all names gone through: the rings are cut as told -/
theorem Cut.all {ks : List Tx} {w f : Tx → Tx} {done : List Tx} (c : Cut ks w f done) {x : Tx} (hx : x ∈ done) : f x = par w x := by
  unfold par
  by_cases hm : IsMin w x
  · rw [if_pos hm]
    rcases c.a x with e | e
    · exfalso
      obtain ⟨n, hn⟩ := c.b x hx
      have hsame : ∀ j, it f j x = it w j x := by
        intro j
        induction j with
        | zero => rfl
        | succ j ih =>
          show f (it f j x) = w (it w j x)
          rw [ih]
          rcases c.a (it w j x) with q | ⟨q, q2⟩
          · exact q
          · have := hm.uniq q2
            rw [this, e]
      rw [hsame] at hn
      exact hm.1.2 n hn
    · exact e.1
  · rw [if_neg hm]
    rcases c.a x with e | e
    · exact e
    · exact absurd e.2 hm
/-! ### the law's way: come to again by as many steps -/
theorem period_le {ks : List Tx} {w : Tx → Tx} (c : Clo ks w) {x : Tx} (hx : x ∈ ks) (h : OnCyc w x) : ∃ p, 0 < p ∧ p ≤ ks.length ∧ it w p x = x := by
  have hin : ∀ j, it w j x ∈ ks := by
    intro j
    induction j with
    | zero => exact hx
    | succ j ih => exact (c.cl _ ih).resolve_left (h.2 (j + 1))
  by_cases hn : (steps w x (ks.length + 1)).Nodup
  · exfalso
    have := len_le_of (ks := ks) hn fun y hy => by
      obtain ⟨j, _, e⟩ := mem_steps.mp hy
      rw [← e]
      exact hin j
    rw [steps_len] at this
    omega
  · -- two steps alike
    have : ∃ a b, a < b ∧ b < ks.length + 1 ∧ it w a x = it w b x := by
      refine Classical.byContradiction fun z => hn ?_
      unfold steps List.Nodup
      rw [List.pairwise_map]
      refine List.Pairwise.imp_of_mem (R := fun a b => a < b) (fun {a b} ha hb hab e => z ⟨a, b, hab, List.mem_range.mp hb, e⟩) List.pairwise_lt_range
    obtain ⟨a, b, hab, hb, e⟩ := this
    obtain ⟨k, hk⟩ := h.back a
    refine ⟨b - a, by omega, by omega, ?_⟩
    have h1 : it w (k + b) x = x := by rw [it_add, ← e, hk]
    have h2 : k + b = (b - a) + (k + a) := by omega
    rw [h2, it_add, it_add w k a, hk] at h1
    exact h1
end PV

/-! who stands below whom: the program's way and the law's -/
namespace PV
open PySem PySem.Spec L2
def pvs_Par := And.intro @e_bok <| And.intro @e_bexc <| And.intro @fin_rt <| And.intro @fin_nx <| And.intro @fin_exc <| And.intro @run1 <| And.intro @run2 <| And.intro @run3 <| And.intro @run4 <| And.intro @e_seq <| And.intro @e_seq_nx <| And.intro @e_seq_rt <| And.intro @e_seq_bk <| And.intro @e_seq_ct <| And.intro @e_nil <| And.intro @e_pass <| And.intro @e_brk <| And.intro @e_cnt <| And.intro @e_retN <| And.intro @e_raise <| And.intro @e_drop <| And.intro @e_drop1 <| And.intro @e_ret <| And.intro @take_flat <| And.intro @e_ret_deep <| And.intro @e_ret_one <| And.intro @e_ret_none <| And.intro @e_if <| And.intro @e_if_t <| And.intro @e_if_f <| And.intro @e_set <| And.intro @e_set_deep <| And.intro @e_set_none <| And.intro @e_down_nil <| And.intro @e_wipe_nil <| And.intro @e_wipe <| And.intro @e_c <| And.intro @e_slot0 <| And.intro @e_slotS <| And.intro @e_var <| And.intro @e_var1 <| And.intro @e_rv_int <| And.intro @e_rv_str <| And.intro @e_rv_bl <| And.intro @e_rv_non <| And.intro @e_rv_lstD <| And.intro @e_rv_lstR <| And.intro @e_rv_lstS <| And.intro @e_rv_dicD <| And.intro @e_rv_dicR <| And.intro @e_rv_dicS <| And.intro @e_bin <| And.intro @e_bin1 <| And.intro @e_one <| And.intro @e_tOf <| And.intro @e_toB <| And.intro @e_tNot <| And.intro @e_tNot1 <| And.intro @e_tAnd <| And.intro @e_tOr <| And.intro @e_tAnd_t <| And.intro @e_tAnd_f <| And.intro @e_tOr_t <| And.intro @e_tOr_f <| And.intro @e_and <| And.intro @e_or <| And.intro @e_and_t <| And.intro @e_and_f <| And.intro @e_or_t <| And.intro @e_or_f <| And.intro @e_not <| And.intro @e_not1 <| And.intro @e_neg <| And.intro @e_neg1 <| And.intro @e_ife <| And.intro @e_ife_t <| And.intro @e_ife_f <| And.intro @e_aNil <| And.intro @e_aCons <| And.intro @e_aCons1 <| And.intro @e_aCons2 <| And.intro @e_tup <| And.intro @e_lst <| And.intro @e_tup1 <| And.intro @e_lst1 <| And.intro @e_src0 <| And.intro @e_srcS <| And.intro @e_mv0 <| And.intro @e_mvS <| And.intro @e_mvN <| And.intro @e_mvC <| And.intro @e_mvC0 <| And.intro @e_add_i <| And.intro @e_add_s <| And.intro @e_add_l <| And.intro @e_sub <| And.intro @e_mod <| And.intro @e_fdv <| And.intro @e_mul <| And.intro @e_mul_s <| And.intro @e_pow18 <| And.intro @e_lt <| And.intro @e_le <| And.intro @e_gt <| And.intro @e_ge <| And.intro @e_eq <| And.intro @e_ne <| And.intro @e_eq1 <| And.intro @e_ne1 <| And.intro @eqF_s <| And.intro @eqF_i <| And.intro @eqF_b <| And.intro @eqF_ln <| And.intro @eqF_rn <| And.intro @e_in_s <| And.intro @e_in_l <| And.intro @e_in_r <| And.intro @e_in_t <| And.intro @e_in_d <| And.intro @e_in1 <| And.intro @e_rsB_f <| And.intro @e_rsB_t <| And.intro @e_pick_s <| And.intro @e_pick_i <| And.intro @e_pick_b <| And.intro @e_pick_l <| And.intro @e_pick_d <| And.intro @e_subs_l <| And.intro @e_subs_r <| And.intro @e_subs_t <| And.intro @e_subs_s <| And.intro @e_subs_d <| And.intro @e_subs1 <| And.intro @e_subsS <| And.intro @e_oNone <| And.intro @e_oSome <| And.intro @e_oSome1 <| And.intro @e_sl <| And.intro @e_sl1 <| And.intro @e_sl2 <| And.intro @e_sl_s <| And.intro @e_sl_l <| And.intro @e_sl_r <| And.intro @e_newL <| And.intro @e_newN <| And.intro @e_len_l <| And.intro @e_len_r <| And.intro @e_len_t <| And.intro @e_len_d <| And.intro @e_len_s <| And.intro @e_sum <| And.intro @e_all <| And.intro @e_any <| And.intro @e_m1 <| And.intro @e_m11 <| And.intro @e_startsw <| And.intro @e_strip <| And.intro @e_lstrip <| And.intro @e_split <| And.intro @e_join <| And.intro @e_iOf <| And.intro @e_it_l <| And.intro @e_it_r <| And.intro @e_it_t <| And.intro @e_it_s <| And.intro @e_range1 <| And.intro @e_rg1 <| And.intro @e_for <| And.intro @e_for1 <| And.intro @e_tTrue <| And.intro @e_step <| And.intro @e_step_t <| And.intro @e_step_f <| And.intro @e_step2 <| And.intro @e_bind1 <| And.intro @e_call <| And.intro @e_call1 <| And.intro @e_call_s <| And.intro @e_call_i <| And.intro @e_call_b <| And.intro @e_call_n <| And.intro @e_call_l <| And.intro @e_call_d <| And.intro @e_isi_s <| And.intro @e_cut_hi <| And.intro @e_cut_lo <| And.intro @e_cut_mid <| And.intro @e_cut_last <| And.intro @e_cut_init <| And.intro @e_rv_rol <| And.intro @e_par <| And.intro @e_par2 <| And.intro @e_par3 <| And.intro @e_wh1_t <| And.intro @e_wh1_f <| And.intro @e_wh2_nx <| And.intro @e_wh2_ct <| And.intro @e_wh2_bk <| And.intro @e_wh2_rt <| And.intro @e_sorted_s <| And.intro @e_list_d <| And.intro @e_sorted_t <| And.intro @e_sortSet_s <| And.intro @e_lenSet_s <| And.intro @e_min_s <| And.intro @e_max_i <| And.intro @e_chain <| And.intro @e_chain1 <| And.intro @e_chain2 <| And.intro @e_chain_t <| And.intro @e_chain_f <| And.intro @e_isi_l <| And.intro @e_isi_t <| And.intro @e_isi_ss <| And.intro @e_rv_tupF <| And.intro @e_rv_tupS <| And.intro @e_rv_tupD <| And.intro @e_pick_tF <| And.intro @e_pick_tS <| And.intro @e_call_tF <| And.intro @e_call_lS <| And.intro @e_flat0 <| And.intro @e_flat_s <| And.intro @e_flat_i <| And.intro @e_flat_b <| And.intro @e_flat_n <| And.intro @e_flat_l <| And.intro @e_newLs <| And.intro @e_newLi <| And.intro @e_at0 <| And.intro @e_at1 <| And.intro @e_at2 <| And.intro @e_at3 <| And.intro @e_atL <| And.intro @e_subs_map <| And.intro @e_put <| And.intro @e_get2 <| And.intro @e_lm <| And.intro @e_lidx <| And.intro @e_lcnt <| And.intro @e_max2 <| And.intro @e_cont <| And.intro @e_any_ss <| And.intro @e_in_ss <| And.intro @e_in_dd <| And.intro @e_rev_l <| And.intro @e_list_l <| And.intro @e_ne0 <| And.intro @e_dic0 <| And.intro @e_down_cons <| And.intro @e_down_some <| And.intro @e_down_none <| And.intro @e_unp <| And.intro @e_unp2 <| And.intro @e_unp3 <| And.intro @e_keys <| And.intro @e_bindL0 <| And.intro @e_bindLS <| And.intro @e_rv_fDD <| And.intro @e_rv_fDR <| And.intro @e_rv_fDS <| And.intro @e_call_fD <| And.intro @e_in_fD <| And.intro @e_list_fD <| And.intro @e_len_fD <| And.intro @e_dict_fD <| And.intro @e_sub_fD <| And.intro @List.length_cons.{0} <| And.intro @List.length_map.{0,0} <| And.intro @List.length_nil.{0} <| And.intro @List.map_cons.{0,0} <| And.intro @List.map_nil.{0,0} <| And.intro @List.replicate_succ.{0} <| And.intro @List.replicate_zero.{0} <| And.intro @List.set_cons_zero.{0} <| And.intro @List.set_cons_succ.{0} <| And.intro @List.cons_append.{0} <| And.intro @List.nil_append.{0} <| And.intro @List.append_nil.{0} <| And.intro @Nat.zero_add <| And.intro @Nat.add_zero <| And.intro @Nat.zero_lt_succ <| And.intro @Nat.lt_add_left_iff_pos <| @Nat.succ_pos
theorem wantClo {ls : List Letter} (h : LtsOk ls) {ks : List Tx} (hn : ks.Nodup) (hm : ∀ x, x ∈ ks ↔ x ∈ namesL ls) : Clo ks (want ls) := by
  have hne : [] ∉ ks := fun z => by
    obtain ⟨l, hl, q⟩ := mem_namesL.mp ((hm _).mp z)
    rcases q with q | q
    · exact (h.all l hl).nm.ne q.symm
    · exact ((h.all l hl).ans _ q).ne rfl
  refine ⟨hn, hne, fun x hx => ?_⟩
  by_cases hx2 : x ∈ ls.map (·.nm)
  · obtain ⟨l, hl, rfl⟩ := List.mem_map.mp hx2
    rw [want_nm h.nod hl]
    unfold lastA
    cases e : l.ans.getLast? with
    | none => exact .inl rfl
    | some a => exact .inr ((hm _).mpr (mem_namesL.mpr ⟨l, hl, .inr (List.mem_of_getLast? e)⟩))
  · rw [want_gap hx2]
    by_cases ht : toldL ls x = []
    · rw [ht]
      exact .inl rfl
    · right
      have hb := (best_ok ht).mem
      unfold toldL at hb
      obtain ⟨l, hl, e⟩ := List.mem_filterMap.mp hb
      refine (hm _).mpr (mem_namesL.mpr ⟨l, hl, .inr ?_⟩)
      by_cases hd : x ∈ l.ans.drop 1
      · rw [if_pos hd] at e
        exact List.mem_of_getElem? e
      · rw [if_neg hd] at e
        cases e
theorem getLast_mem' {l : List Tx} {a : Tx} (h : l.getLast? = some a) : a ∈ l := List.mem_of_getLast? h
/-! ### the ring to which a line comes -/
theorem ringE {ks : List Tx} {f : Tx → Tx} (c : Clo ks f) (hl : ks.length ≤ 900) {x : Tx} (hx : x ∈ ks) : ∃ R, RingOf ks f x R ∧ R.length ≤ 900 ∧ c_ring_of [fD ks f, .str x] = .ok (.lst (R.map .str), true) := by
  obtain ⟨M, q1, q2, q3, q4⟩ := ringOf_ex c hx
  have hw : ∀ (n m : Nat) (k : Kd), m ≤ M → M - m < n → ∃ k', whileGo t_ring_of_1 b_ring_of_1 n [some (fD ks f, .shr), some (.str (it f m x), k), some (.lst ((steps f x m).map .str), .deep)] = .ok (.nx [some (fD ks f, .shr), some (.str (it f M x), k'), some (.lst ((steps f x M).map .str), .deep)]) := by
    intro n
    induction n with
    | zero => intro m k _ h; omega
    | succ n ih =>
      intro m k hm hn
      rw [while_S]
      by_cases e : m = M
      · subst e
        refine ⟨k, ?_⟩
        rcases q3 with q | q
        · unfold t_ring_of_1
          simp only [pvs_Par, Nat.reduceSub, Nat.reduceAdd, Nat.reduceLT, Nat.reduceLeDiff, Nat.reduceEqDiff, decide_true, decide_false, Bool.not_true, Bool.not_false, reduceCtorEq, eq_self, if_true, if_false, eqF_s, q]
        · have hne : it f m x ≠ [] := fun z => by
            obtain ⟨j, hj, ej⟩ := mem_steps.mp q
            exact (q2 j hj).2.1 (by rw [ej, z])
          unfold t_ring_of_1
          simp only [pvs_Par, Nat.reduceSub, Nat.reduceAdd, Nat.reduceLT, Nat.reduceLeDiff, Nat.reduceEqDiff, decide_true, decide_false, Bool.not_true, Bool.not_false, reduceCtorEq, eq_self, if_true, if_false, eqF_s, hne, e_any_ss, q]
      · obtain ⟨g1, g2, g3⟩ := q2 m (by omega)
        obtain ⟨k', h⟩ := ih (m + 1) .deep (by omega) (by omega)
        refine ⟨k', ?_⟩
        have ha := app_ok (i := 2) (f := fVar 1) (xs := (steps f x m).map .str) (d := .str (it f m x)) (E := [some (fD ks f, .shr), some (.str (it f m x), k), some (.lst ((steps f x m).map .str), .deep)]) rfl (by rw [List.length_map, steps_len]; omega) rfl
        have e2 : (steps f x m).map Dat.str ++ [.str (it f m x)] = (steps f x (m + 1)).map .str := by rw [steps_succ, List.map_append]; rfl
        rw [e2] at ha
        unfold t_ring_of_1 b_ring_of_1
        unfold t_ring_of_1 b_ring_of_1 at h
        simp only [pvs_Par, Nat.reduceSub, Nat.reduceAdd, Nat.reduceLT, Nat.reduceLeDiff, Nat.reduceEqDiff, decide_true, decide_false, Bool.not_true, Bool.not_false, reduceCtorEq, eq_self, if_true, if_false, eqF_s, g2, e_any_ss, g3, ↓ha, e_sub_fD g1]
        exact h
  obtain ⟨k', hw⟩ := hw 1000 0 .shr (Nat.zero_le _) (by omega)
  have e0 : steps f x 0 = [] := rfl
  have e1 : it f 0 x = x := rfl
  rw [e0, e1] at hw
  refine ⟨_, q4, ?_, ?_⟩
  · split
    · simp
    · rw [List.length_drop, steps_len]
      omega
  · unfold c_ring_of g_ring_of
    have em : ([] : List Tx).map Dat.str = [] := rfl
    rw [em] at hw
    by_cases h : it f M x = []
    · rw [if_pos h]
      simp only [pvs_Par, Nat.reduceSub, Nat.reduceAdd, Nat.reduceLT, Nat.reduceLeDiff, Nat.reduceEqDiff, decide_true, decide_false, Bool.not_true, Bool.not_false, reduceCtorEq, eq_self, if_true, if_false, (by decide : (0 : Nat) ≤ 1000000), hw, eqF_s, h]
    · rw [if_neg h]
      have hmem := q3.resolve_left h
      have e3 : ∀ E : Sto, slot E 1 = some (.str (it f M x), k') → slot E 2 = some (.lst ((steps f x M).map .str), .deep) → fLM gLIdx (fVar 2) (fVar 1) E = .ok ⟨.int ((steps f x M).idxOf (it f M x)), false, [], some []⟩ := fun E h1 h2 => by
        have q5 : fVar 2 E = .ok ⟨.lst ((steps f x M).map .str), false, [2], some [2]⟩ := by simp only [pvs_Par, Nat.reduceSub, Nat.reduceAdd, Nat.reduceLT, Nat.reduceLeDiff, Nat.reduceEqDiff, decide_true, decide_false, Bool.not_true, Bool.not_false, reduceCtorEq, eq_self, if_true, if_false, h2]
        rw [e_lm q5]
        simp only [pvs_Par, Nat.reduceSub, Nat.reduceAdd, Nat.reduceLT, Nat.reduceLeDiff, Nat.reduceEqDiff, decide_true, decide_false, Bool.not_true, Bool.not_false, reduceCtorEq, eq_self, if_true, if_false, h1, e_lidx hmem]
      have e4 : ((steps f x M).map Dat.str).length ≤ 1000000 := by rw [List.length_map, steps_len]; omega
      have e5 : (0 : Int) ≤ ((steps f x M).idxOf (it f M x) : Int) := by omega
      have e6 : ((steps f x M).map Dat.str).drop ((((steps f x M).idxOf (it f M x) : Nat) : Int)).toNat = ((steps f x M).drop ((steps f x M).idxOf (it f M x))).map .str := by
        rw [Int.toNat_natCast, List.map_drop]
      rw [List.length_map] at e4
      simp only [pvs_Par, Nat.reduceSub, Nat.reduceAdd, Nat.reduceLT, Nat.reduceLeDiff, Nat.reduceEqDiff, decide_true, decide_false, Bool.not_true, Bool.not_false, reduceCtorEq, eq_self, if_true, if_false, (by decide : (0 : Nat) ≤ 1000000), hw, eqF_s, h, e3, e4, e5, e6]
/-! ### parents -/
theorem parentsOfE {ls : List Letter} (h : LtsOk ls) : c_parents_of [ltsD ls] = .ok (fD (wantK ls) (par (want ls)), true) := by
  have hfew := h.few
  have hcw := wantClo h (wantK_nodup h.nod) fun _ => mem_wantK
  have hkl : (wantK ls).length ≤ 45 := by
    rw [(wantK_perm h.nod).length_eq]
    exact namesL_len hfew
  have h1 := forGo_pre (T := .one 2) (g := b_parents_of_1) Dat.str (fun pre E => ∃ f x2 x3, Cut (wantK ls) (want ls) f pre ∧ E = [some (ltsD ls, .shr), some (fD (wantK ls) f, .deep), x2, x3]) (namesL ls)
    (E := [some (ltsD ls, .shr), some (fD (wantK ls) (want ls), .deep), none, none]) ?st ⟨want ls, none, none, Cut.start, rfl⟩
  case st =>
    rintro pre x post E hpre ⟨f, x2, x3, hc, rfl⟩
    have hx : x ∈ wantK ls := mem_wantK.mpr (by rw [hpre]; simp)
    obtain ⟨R, hR, hRl, e⟩ := ringE (hc.clo hcw) (by omega) hx
    by_cases hR0 : R = []
    · subst hR0
      refine ⟨[some (ltsD ls, .shr), some (fD (wantK ls) f, .deep), some (.str x, .shr), x3], _, rfl, .inl ?_, f, some (.str x, .shr), some (.lst [], .deep), hc.keep (hR.top rfl), rfl⟩
      have em : ([] : List Tx).map Dat.str = [] := rfl
      rw [em] at e
      unfold b_parents_of_1
      simp only [pvs_Par, Nat.reduceSub, Nat.reduceAdd, Nat.reduceLT, Nat.reduceLeDiff, Nat.reduceEqDiff, decide_true, decide_false, Bool.not_true, Bool.not_false, reduceCtorEq, eq_self, if_true, if_false, e, (by decide : (0 : Nat) ≤ 1000000), eqF_ln]
    · obtain ⟨i, p, p1, p2, p3, p4⟩ := hR.ring hR0
      cases hRc : R with
      | nil => exact absurd hRc hR0
      | cons r rs =>
        obtain ⟨m1, m2⟩ := minT_spec rs r
        rw [← hRc] at m1 m2
        obtain ⟨c1, c2⟩ := hc.cut hcw p1 p2 p3 p4 m1 m2
        refine ⟨[some (ltsD ls, .shr), some (fD (wantK ls) f, .deep), some (.str x, .shr), x3], _, rfl, .inl ?_, updT f (minT r rs) [], some (.str x, .shr), some (.lst ((r :: rs).map .str), .deep), c1, rfl⟩
        rw [hRc] at e hRl
        have hmin := fun rt s m => e_min_s (rt := rt) (s := s) (m := m) (x := r) (xs := rs) (by simp only [List.length_cons] at hRl; omega)
        have hput := putT_ok (i := 1) (fk := fOne gMin (fVar 3)) (fv := fC (.str [])) (x := minT r rs) (v := []) (ks := wantK ls) (f := f) (E := [some (ltsD ls, .shr), some (fD (wantK ls) f, .deep), some (.str x, .shr), some (.lst ((r :: rs).map .str), .deep)]) rfl (by omega) rfl (by
          rw [e_one]
          show (Res.ok ⟨.lst ((r :: rs).map .str), false, [3], some [3]⟩).bind gMin = _
          rw [e_bok, hmin])
        rw [addK_old c2] at hput
        rw [List.map_cons] at e hput ⊢
        unfold b_parents_of_1
        simp only [pvs_Par, Nat.reduceSub, Nat.reduceAdd, Nat.reduceLT, Nat.reduceLeDiff, Nat.reduceEqDiff, decide_true, decide_false, Bool.not_true, Bool.not_false, reduceCtorEq, eq_self, if_true, if_false, e, (by decide : (0 : Nat) ≤ 1000000), eqF_ln, Nat.add_one_ne_zero, ↓hput]
  obtain ⟨E', h1, f, x2, x3, hc, rfl⟩ := h1
  have hfin : fD (wantK ls) f = fD (wantK ls) (par (want ls)) := fD_congr fun k hk => hc.all (mem_wantK.mp hk)
  rw [hfin] at h1
  have hn := namesE hfew
  have hw := wantedE h
  have er : rVar 0 (ltsD ls) .shr = ⟨ltsD ls, false, [0], none⟩ := rfl
  unfold c_parents_of g_parents_of
  simp only [pvs_Par, Nat.reduceSub, Nat.reduceAdd, Nat.reduceLT, Nat.reduceLeDiff, Nat.reduceEqDiff, decide_true, decide_false, Bool.not_true, Bool.not_false, reduceCtorEq, eq_self, if_true, if_false, er, hw, hn, h1]
  rfl
/-! ### the law's reading -/
theorem lparentsE {ls : List Letter} (h : LtsOk ls) : ∃ ks, ks.Nodup ∧ (∀ x, x ∈ ks ↔ x ∈ namesL ls) ∧ c__law_parents [ltsD ls] = .ok (fD ks (par (want ls)), true) := by
  obtain ⟨ks, hn, hm, hw⟩ := lwantedE h
  have hc := wantClo h hn hm
  have hkl : ks.length ≤ 45 := by
    rw [(perm_of hn (namesL_nodup ls) hm).length_eq]
    exact namesL_len h.few
  refine ⟨ks, hn, hm, ?_⟩
  generalize hwf : want ls = w at hw hc
  have h1 := forGo_pre (T := .one 3) (g := b__law_parents_2) Dat.str (fun pre E => ∃ f x3 x4 x5, (∀ x, f x = if x ∈ pre then par w x else w x) ∧ E = [some (ltsD ls, .shr), some (fD ks w, .shr), some (fD ks f, .deep), x3, x4, x5]) ks
    (E := [some (ltsD ls, .shr), some (fD ks w, .shr), some (fD ks w, .deep), none, none, none]) ?st ⟨w, none, none, none, fun x => by simp, rfl⟩
  case st =>
    rintro pre x post E hpre ⟨f, x3, x4, x5, hf, rfl⟩
    have hx : x ∈ ks := by rw [hpre]; simp
    have hxp : x ∉ pre := fun z => by
      rw [hpre] at hn
      exact (List.nodup_append.mp hn).2.2 _ z _ List.mem_cons_self rfl
    -- the walk
    have hwalk : ∃ M, 1 ≤ M ∧ M ≤ ks.length + 1 ∧ (∀ j, j < M → it w j x ∈ ks) ∧ (it w M x = [] ∨ it w M x = x ∨ ks.length < M) ∧ (∀ j, 1 ≤ j → j < M → it w j x ≠ [] ∧ it w j x ≠ x) ∧
        ∀ (n m : Nat) (k4 : Kd), 1 ≤ m → m ≤ M → M - m < n → ∃ k5, whileGo t__law_parents_1 b__law_parents_1 n [some (ltsD ls, .shr), some (fD ks w, .shr), some (fD ks f, .deep), some (.str x, .shr), some (.lst ((steps w x m).map .str), .deep), some (.str (it w m x), k4)] = .ok (.nx [some (ltsD ls, .shr), some (fD ks w, .shr), some (fD ks f, .deep), some (.str x, .shr), some (.lst ((steps w x M).map .str), .deep), some (.str (it w M x), k5)]) := by
      -- the first stop
      have hstop : ∃ M, 1 ≤ M ∧ M ≤ ks.length + 1 ∧ (∀ j, j < M → it w j x ∈ ks) ∧ (it w M x = [] ∨ it w M x = x ∨ ks.length < M) ∧ (∀ j, 1 ≤ j → j < M → it w j x ≠ [] ∧ it w j x ≠ x ∧ j ≤ ks.length) := by
        have go : ∀ (d m : Nat), m + d = ks.length + 1 → 1 ≤ m → (∀ j, j < m → it w j x ∈ ks) → (∀ j, 1 ≤ j → j < m → it w j x ≠ [] ∧ it w j x ≠ x ∧ j ≤ ks.length) → ∃ M, 1 ≤ M ∧ M ≤ ks.length + 1 ∧ (∀ j, j < M → it w j x ∈ ks) ∧ (it w M x = [] ∨ it w M x = x ∨ ks.length < M) ∧ (∀ j, 1 ≤ j → j < M → it w j x ≠ [] ∧ it w j x ≠ x ∧ j ≤ ks.length) := by
          intro d
          induction d with
          | zero => exact fun m h1 h2 h3 h4 => ⟨m, h2, by omega, h3, .inr (.inr (by omega)), h4⟩
          | succ d ih =>
            intro m h1 h2 h3 h4
            by_cases hs : it w m x = [] ∨ it w m x = x ∨ ks.length < m
            · exact ⟨m, h2, by omega, h3, hs, h4⟩
            · have s1 : it w m x ≠ [] := fun z => hs (.inl z)
              have s2 : it w m x ≠ x := fun z => hs (.inr (.inl z))
              have s3 : ¬ ks.length < m := fun z => hs (.inr (.inr z))
              have s4 : it w m x ∈ ks := by
                have e : m = (m - 1) + 1 := by omega
                rw [e] at s1 ⊢
                exact (hc.cl _ (h3 (m - 1) (by omega))).resolve_left s1
              refine ih (m + 1) (by omega) (by omega) (fun j hj => ?_) fun j hj1 hj2 => ?_
              · by_cases e : j = m
                · rw [e]
                  exact s4
                · exact h3 j (by omega)
              · by_cases e : j = m
                · rw [e]
                  exact ⟨s1, s2, by omega⟩
                · exact h4 j hj1 (by omega)
        exact go ks.length 1 (by omega) (Nat.le_refl _) (fun j hj => by
          have : j = 0 := by omega
          rw [this]
          exact hx) fun j h1 h2 => by omega
      obtain ⟨M, m1, m2, m3, m4, m5⟩ := hstop
      refine ⟨M, m1, m2, m3, m4, fun j h1 h2 => ⟨(m5 j h1 h2).1, (m5 j h1 h2).2.1⟩, fun n => ?_⟩
      induction n with
      | zero => intro m k4 _ _ h; omega
      | succ n ih =>
        intro m k4 hm1 hm2 hn2
        rw [while_S]
        have sl : (steps w x m).length = m := steps_len
        by_cases e : m = M
        · subst e
          refine ⟨k4, ?_⟩
          unfold t__law_parents_1
          rcases m4 with q | q | q
          · simp only [pvs_Par, Nat.reduceSub, Nat.reduceAdd, Nat.reduceLT, Nat.reduceLeDiff, Nat.reduceEqDiff, decide_true, decide_false, Bool.not_true, Bool.not_false, reduceCtorEq, eq_self, if_true, if_false, eqF_s, q]
          · have hne : it w m x ≠ [] := by
              rw [q]
              exact fun z => hc.ne (z ▸ hx)
            rw [q] at hne ⊢
            simp only [pvs_Par, Nat.reduceSub, Nat.reduceAdd, Nat.reduceLT, Nat.reduceLeDiff, Nat.reduceEqDiff, decide_true, decide_false, Bool.not_true, Bool.not_false, reduceCtorEq, eq_self, if_true, if_false, eqF_s, hne]
          · have q' : ¬ ((m : Nat) : Int) ≤ (ks.length : Int) := by omega
            by_cases c1 : it w m x = []
            · simp only [pvs_Par, Nat.reduceSub, Nat.reduceAdd, Nat.reduceLT, Nat.reduceLeDiff, Nat.reduceEqDiff, decide_true, decide_false, Bool.not_true, Bool.not_false, reduceCtorEq, eq_self, if_true, if_false, eqF_s, c1]
            · by_cases c2 : it w m x = x
              · rw [c2] at c1 ⊢
                simp only [pvs_Par, Nat.reduceSub, Nat.reduceAdd, Nat.reduceLT, Nat.reduceLeDiff, Nat.reduceEqDiff, decide_true, decide_false, Bool.not_true, Bool.not_false, reduceCtorEq, eq_self, if_true, if_false, eqF_s, c1]
              · simp only [pvs_Par, Nat.reduceSub, Nat.reduceAdd, Nat.reduceLT, Nat.reduceLeDiff, Nat.reduceEqDiff, decide_true, decide_false, Bool.not_true, Bool.not_false, reduceCtorEq, eq_self, if_true, if_false, eqF_s, c1, c2, sl, e_len_fD, q']
        · obtain ⟨g1, g2, g3⟩ := m5 m hm1 (by omega)
          have g4 : it w m x ∈ ks := m3 m (by omega)
          have q' : ((m : Nat) : Int) ≤ (ks.length : Int) := by omega
          obtain ⟨k5, h⟩ := ih (m + 1) .deep (by omega) (by omega) (by omega)
          refine ⟨k5, ?_⟩
          have ha := app_ok (i := 4) (f := fVar 5) (xs := (steps w x m).map .str) (d := .str (it w m x)) (E := [some (ltsD ls, .shr), some (fD ks w, .shr), some (fD ks f, .deep), some (.str x, .shr), some (.lst ((steps w x m).map .str), .deep), some (.str (it w m x), k4)]) rfl (by rw [List.length_map, steps_len]; omega) rfl
          have e2 : (steps w x m).map Dat.str ++ [.str (it w m x)] = (steps w x (m + 1)).map .str := by rw [steps_succ, List.map_append]; rfl
          rw [e2] at ha
          unfold t__law_parents_1 b__law_parents_1
          unfold t__law_parents_1 b__law_parents_1 at h
          simp only [pvs_Par, Nat.reduceSub, Nat.reduceAdd, Nat.reduceLT, Nat.reduceLeDiff, Nat.reduceEqDiff, decide_true, decide_false, Bool.not_true, Bool.not_false, reduceCtorEq, eq_self, if_true, if_false, eqF_s, g1, g2, sl, e_len_fD, q', ↓ha, e_sub_fD g4]
          exact h
    obtain ⟨M, m1, m2, m3, m4, m5, hwalk⟩ := hwalk
    obtain ⟨k5, hw1⟩ := hwalk 1000 1 .deep (Nat.le_refl _) m1 (by omega)
    have es1 : (steps w x 1).map Dat.str = [.str x] := rfl
    have ei1 : it w 1 x = w x := rfl
    rw [es1, ei1] at hw1
    -- least of its ring, or not
    have hx0 : x ≠ [] := fun z => hc.ne (z ▸ hx)
    have hmin : IsMin w x ↔ (it w M x = x ∧ ∀ y ∈ steps w x M, ltT y x = false) := by
      constructor
      · intro hM
        obtain ⟨p, p1, p2, p3⟩ := period_le hc hx hM.1
        have : it w M x = x := by
          rcases m4 with q | q | q
          · exact absurd q (hM.1.2 M)
          · exact q
          · exfalso
            exact (m5 p p1 (by omega)).2 p3
        refine ⟨this, fun y hy => ?_⟩
        obtain ⟨j, _, e⟩ := mem_steps.mp hy
        rw [← e]
        exact hM.2 j
      · rintro ⟨e, hy⟩
        have hin : ∀ j, it w j x ∈ steps w x M := fun j => mem_steps.mpr ⟨j % M, Nat.mod_lt _ (by omega), (it_mod e j).symm⟩
        refine ⟨⟨⟨M, by omega, e⟩, fun j z => ?_⟩, fun j => hy _ (hin j)⟩
        have := it_mod e j
        rw [z] at this
        exact hc.ne (by rw [this]; exact m3 _ (Nat.mod_lt _ (by omega)))
    have hring : ∃ r rs, steps w x M = r :: rs ∧ rs.length < 1000 := by
      cases e : steps w x M with
      | nil =>
        have := congrArg List.length e
        rw [steps_len] at this
        simp at this
        omega
      | cons r rs =>
        have := congrArg List.length e
        rw [steps_len] at this
        simp only [List.length_cons] at this
        exact ⟨r, rs, rfl, by omega⟩
    obtain ⟨r, rs, er, hrl⟩ := hring
    obtain ⟨t1, t2⟩ := minT_spec rs r
    rw [← er] at t1 t2
    have hx_in : x ∈ steps w x M := mem_steps.mpr ⟨0, by omega, rfl⟩
    have hmin2 : IsMin w x ↔ (it w M x = x ∧ x = minT r rs) := by
      rw [hmin]
      constructor
      · rintro ⟨e, hy⟩
        exact ⟨e, min_uniq hx_in t1 hy t2⟩
      · rintro ⟨e, e2⟩
        exact ⟨e, fun y hy => by rw [e2]; exact t2 y hy⟩
    have hgm := fun rt s m => e_min_s (rt := rt) (s := s) (m := m) (x := r) (xs := rs) (by omega)
    rw [← er] at hgm
    have hpar : sPar [4, 5] (aCons (fLst (aCons (fVar 3) aNil)) (aCons (fBin gSubs (fVar 1) (fVar 3)) aNil)) [some (ltsD ls, .shr), some (fD ks w, .shr), some (fD ks f, .deep), some (.str x, .shr), x4, x5] = .ok (.nx [some (ltsD ls, .shr), some (fD ks w, .shr), some (fD ks f, .deep), some (.str x, .shr), some (.lst [.str x], .deep), some (.str (w x), .deep)]) := by
      simp only [pvs_Par, Nat.reduceSub, Nat.reduceAdd, Nat.reduceLT, Nat.reduceLeDiff, Nat.reduceEqDiff, decide_true, decide_false, Bool.not_true, Bool.not_false, reduceCtorEq, eq_self, if_true, if_false, (by decide : (1 : Nat) ≤ 1000000), e_sub_fD hx]
    have hsame : ∀ y, y ≠ x → (f y = if y ∈ pre ++ [x] then par w y else w y) := fun y hy => by
      rw [hf y]
      by_cases hp : y ∈ pre
      · rw [if_pos hp, if_pos (List.mem_append_left _ hp)]
      · rw [if_neg hp, if_neg (fun z => (List.mem_append.mp z).elim hp fun q => hy (by simpa using q))]
    by_cases hM : IsMin w x
    · obtain ⟨c1, c2⟩ := hmin2.mp hM
      refine ⟨[some (ltsD ls, .shr), some (fD ks w, .shr), some (fD ks f, .deep), some (.str x, .shr), x4, x5], _, rfl, .inl ?_, updT f x [], some (.str x, .shr), some (.lst ((steps w x M).map .str), .deep), some (.str x, k5), fun y => ?_, rfl⟩
      · have hput := putT_ok (i := 2) (fk := fVar 3) (fv := fC (.str [])) (x := x) (v := []) (ks := ks) (f := f) (E := [some (ltsD ls, .shr), some (fD ks w, .shr), some (fD ks f, .deep), some (.str x, .shr), some (.lst ((steps w x M).map .str), .deep), some (.str x, k5)]) rfl (by omega) rfl rfl
        rw [addK_old hx] at hput
        rw [c1] at hw1
        have c3 : (x = minT r rs) = True := eq_true c2
        unfold b__law_parents_2
        simp only [pvs_Par, Nat.reduceSub, Nat.reduceAdd, Nat.reduceLT, Nat.reduceLeDiff, Nat.reduceEqDiff, decide_true, decide_false, Bool.not_true, Bool.not_false, reduceCtorEq, eq_self, if_true, if_false, ↓hpar, hw1, eqF_s, hgm, c3, ↓hput]
      · by_cases hy : y = x
        · subst hy
          rw [if_pos (by simp)]
          unfold par
          rw [if_pos hM]
          exact if_pos rfl
        · have : updT f x [] y = f y := if_neg hy
          rw [this]
          exact hsame y hy
    · refine ⟨[some (ltsD ls, .shr), some (fD ks w, .shr), some (fD ks f, .deep), some (.str x, .shr), x4, x5], _, rfl, .inl ?_, f, some (.str x, .shr), some (.lst ((steps w x M).map .str), .deep), some (.str (it w M x), k5), fun y => ?_, rfl⟩
      · unfold b__law_parents_2
        by_cases c1 : it w M x = x
        · have c2 : ¬ x = minT r rs := fun z => hM (hmin2.mpr ⟨c1, z⟩)
          rw [c1] at hw1 ⊢
          simp only [pvs_Par, Nat.reduceSub, Nat.reduceAdd, Nat.reduceLT, Nat.reduceLeDiff, Nat.reduceEqDiff, decide_true, decide_false, Bool.not_true, Bool.not_false, reduceCtorEq, eq_self, if_true, if_false, ↓hpar, hw1, eqF_s, hgm, c2]
        · simp only [pvs_Par, Nat.reduceSub, Nat.reduceAdd, Nat.reduceLT, Nat.reduceLeDiff, Nat.reduceEqDiff, decide_true, decide_false, Bool.not_true, Bool.not_false, reduceCtorEq, eq_self, if_true, if_false, ↓hpar, hw1, eqF_s, c1]
      · by_cases hy : y = x
        · subst hy
          rw [if_pos (by simp), hf y, if_neg hxp]
          unfold par
          rw [if_neg hM]
        · exact hsame y hy
  obtain ⟨E', h1, f, x3, x4, x5, hf, rfl⟩ := h1
  have hfin : fD ks f = fD ks (par w) := fD_congr fun k hk => by rw [hf k, if_pos hk]
  rw [hfin] at h1
  have h2 := forD_of (T := .one 3) (i := 1) (g := b__law_parents_2) (ks := ks) (k := .deep) (E := [some (ltsD ls, .shr), some (fD ks w, .deep), some (fD ks w, .deep), none, none, none]) rfl h1
  have er : rVar 0 (ltsD ls) .shr = ⟨ltsD ls, false, [0], none⟩ := rfl
  unfold c__law_parents g__law_parents
  simp only [pvs_Par, Nat.reduceSub, Nat.reduceAdd, Nat.reduceLT, Nat.reduceLeDiff, Nat.reduceEqDiff, decide_true, decide_false, Bool.not_true, Bool.not_false, reduceCtorEq, eq_self, if_true, if_false, er, hw, ↓h2]
  rfl
end PV

/-! equal data, by the kernel's reckoning; equality of data with themselves -/
namespace PV
open PySem PySem.Spec L2
mutual
def datB : Dat → Dat → Bool
  | .non, .non => true
  | .bl a, .bl b => a == b
  | .int a, .int b => decide (a = b)
  | .str a, .str b => decide (a = b)
  | .tup a, .tup b => datsB a b
  | .lst a, .lst b => datsB a b
  | .rol a, .rol b => datsB a b
  | .dic k a, .dic l b => decide (k = l) && datsB a b
  | .ins c k a, .ins d l b => decide (c = d) && (decide (k = l) && datsB a b)
  | .fn a, .fn b => decide (a = b)
  | _, _ => false
def datsB : List Dat → List Dat → Bool
  | [], [] => true
  | a :: as, b :: bs => datB a b && datsB as bs
  | _, _ => false
end
mutual
theorem datB_eq : ∀ (a b : Dat), datB a b = true → a = b
  | .non, b, h => by cases b <;> simp only [datB] at h <;> first | rfl | cases h
  | .bl a, b, h => by
    cases b <;> simp only [datB] at h <;> first | cases h | skip
    rw [eq_of_beq h]
  | .int a, b, h => by
    cases b <;> simp only [datB] at h <;> first | cases h | skip
    rw [of_decide_eq_true h]
  | .str a, b, h => by
    cases b <;> simp only [datB] at h <;> first | cases h | skip
    rw [of_decide_eq_true h]
  | .fn a, b, h => by
    cases b <;> simp only [datB] at h <;> first | cases h | skip
    rw [of_decide_eq_true h]
  | .tup a, b, h => by
    cases b <;> simp only [datB] at h <;> first | cases h | skip
    rw [datsB_eq a _ h]
  | .lst a, b, h => by
    cases b <;> simp only [datB] at h <;> first | cases h | skip
    rw [datsB_eq a _ h]
  | .rol a, b, h => by
    cases b <;> simp only [datB] at h <;> first | cases h | skip
    rw [datsB_eq a _ h]
  | .dic k a, b, h => by
    cases b <;> simp only [datB] at h <;> first | cases h | skip
    rw [Bool.and_eq_true] at h
    rw [of_decide_eq_true h.1, datsB_eq a _ h.2]
  | .ins c k a, b, h => by
    cases b <;> simp only [datB] at h <;> first | cases h | skip
    rw [Bool.and_eq_true, Bool.and_eq_true] at h
    rw [of_decide_eq_true h.1, of_decide_eq_true h.2.1, datsB_eq a _ h.2.2]
theorem datsB_eq : ∀ (a b : List Dat), datsB a b = true → a = b
  | [], [], _ => rfl
  | [], _ :: _, h => by simp [datsB] at h
  | _ :: _, [], h => by simp [datsB] at h
  | a :: as, b :: bs, h => by
    simp only [datsB, Bool.and_eq_true] at h
    rw [datB_eq a b h.1, datsB_eq as bs h.2]
end
/-- a call's outcome is this one -/
def outB (r : Res (Dat × Bool)) (d : Dat) (dp : Bool) : Bool := match r with
  | .ok (e, dq) => datB e d && (dq == dp)
  | _ => false
theorem outB_eq {r : Res (Dat × Bool)} {d : Dat} {dp : Bool} (h : outB r d dp = true) : r = .ok (d, dp) := by
  unfold outB at h
  split at h
  · rw [Bool.and_eq_true] at h
    rw [datB_eq _ _ h.1, eq_of_beq h.2]
  · cases h
def excB (r : Res (Dat × Bool)) (c : Tx) : Bool := match r with
  | .exc d => decide (d = c)
  | _ => false
theorem excB_eq {r : Res (Dat × Bool)} {c : Tx} (h : excB r c = true) : r = .exc c := by
  unfold excB at h
  split at h
  · rw [of_decide_eq_true h]
  · cases h
/-! ### the same twice -/
def okE : Nat → Dat → Bool
  | 0, _ => false
  | n + 1, d => match vw d with
    | .seq _ xs => xs.all (okE n)
    | .oth => false
    | _ => true
theorem eqL_self {f : Dat → Dat → Res Bool} : ∀ {xs : List Dat}, (∀ x ∈ xs, f x x = .ok true) → eqL f xs xs = .ok true
  | [], _ => rfl
  | x :: xs, h => by
    show (f x x).bind _ = _
    rw [h x List.mem_cons_self, bind_ok, eqL_self fun y hy => h y (List.mem_cons_of_mem _ hy)]
    rfl
theorem eqD_self : ∀ (n : Nat) (d : Dat), okE n d = true → eqD n d d = .ok true
  | 0, _, h => by cases h
  | n + 1, d, h => by
    unfold okE at h
    unfold eqD
    cases e : vw d with
    | seq t xs =>
      rw [e] at h
      simp only at h ⊢
      rw [List.all_eq_true] at h
      simp only [beq_self_eq_true, if_true]
      exact eqL_self fun x hx => eqD_self n x (h x hx)
    | oth =>
      rw [e] at h
      cases h
    | non => rfl
    | bl b => simp
    | int i => simp
    | str x => simp
theorem eqF_self {d : Dat} (h : okE 20 d = true) : eqF d d = .ok true := eqD_self 20 d h
theorem okE_str {n : Nat} {x : Tx} : okE (n + 1) (.str x) = true := rfl
theorem okE_tup {n : Nat} {xs : List Dat} : okE (n + 1) (.tup xs) = xs.all (okE n) := rfl
theorem okE_lst {n : Nat} {xs : List Dat} : okE (n + 1) (.lst xs) = xs.all (okE n) := rfl
end PV

/-! pairs; letters copied, in another order, sorted; the same letters -/
namespace PV
open PySem PySem.Spec L2
def pvs_Pairs := And.intro @e_bok <| And.intro @e_bexc <| And.intro @fin_rt <| And.intro @fin_nx <| And.intro @fin_exc <| And.intro @run1 <| And.intro @run2 <| And.intro @run3 <| And.intro @run4 <| And.intro @e_seq <| And.intro @e_seq_nx <| And.intro @e_seq_rt <| And.intro @e_seq_bk <| And.intro @e_seq_ct <| And.intro @e_nil <| And.intro @e_pass <| And.intro @e_brk <| And.intro @e_cnt <| And.intro @e_retN <| And.intro @e_raise <| And.intro @e_drop <| And.intro @e_drop1 <| And.intro @e_ret <| And.intro @take_flat <| And.intro @e_ret_deep <| And.intro @e_ret_one <| And.intro @e_ret_none <| And.intro @e_if <| And.intro @e_if_t <| And.intro @e_if_f <| And.intro @e_set <| And.intro @e_set_deep <| And.intro @e_set_none <| And.intro @e_down_nil <| And.intro @e_wipe_nil <| And.intro @e_wipe <| And.intro @e_c <| And.intro @e_slot0 <| And.intro @e_slotS <| And.intro @e_var <| And.intro @e_var1 <| And.intro @e_rv_int <| And.intro @e_rv_str <| And.intro @e_rv_bl <| And.intro @e_rv_non <| And.intro @e_rv_lstD <| And.intro @e_rv_lstR <| And.intro @e_rv_lstS <| And.intro @e_rv_dicD <| And.intro @e_rv_dicR <| And.intro @e_rv_dicS <| And.intro @e_bin <| And.intro @e_bin1 <| And.intro @e_one <| And.intro @e_tOf <| And.intro @e_toB <| And.intro @e_tNot <| And.intro @e_tNot1 <| And.intro @e_tAnd <| And.intro @e_tOr <| And.intro @e_tAnd_t <| And.intro @e_tAnd_f <| And.intro @e_tOr_t <| And.intro @e_tOr_f <| And.intro @e_and <| And.intro @e_or <| And.intro @e_and_t <| And.intro @e_and_f <| And.intro @e_or_t <| And.intro @e_or_f <| And.intro @e_not <| And.intro @e_not1 <| And.intro @e_neg <| And.intro @e_neg1 <| And.intro @e_ife <| And.intro @e_ife_t <| And.intro @e_ife_f <| And.intro @e_aNil <| And.intro @e_aCons <| And.intro @e_aCons1 <| And.intro @e_aCons2 <| And.intro @e_tup <| And.intro @e_lst <| And.intro @e_tup1 <| And.intro @e_lst1 <| And.intro @e_src0 <| And.intro @e_srcS <| And.intro @e_mv0 <| And.intro @e_mvS <| And.intro @e_mvN <| And.intro @e_mvC <| And.intro @e_mvC0 <| And.intro @e_add_i <| And.intro @e_add_s <| And.intro @e_add_l <| And.intro @e_sub <| And.intro @e_mod <| And.intro @e_fdv <| And.intro @e_mul <| And.intro @e_mul_s <| And.intro @e_pow18 <| And.intro @e_lt <| And.intro @e_le <| And.intro @e_gt <| And.intro @e_ge <| And.intro @e_eq <| And.intro @e_ne <| And.intro @e_eq1 <| And.intro @e_ne1 <| And.intro @eqF_s <| And.intro @eqF_i <| And.intro @eqF_b <| And.intro @eqF_ln <| And.intro @eqF_rn <| And.intro @e_in_s <| And.intro @e_in_l <| And.intro @e_in_r <| And.intro @e_in_t <| And.intro @e_in_d <| And.intro @e_in1 <| And.intro @e_rsB_f <| And.intro @e_rsB_t <| And.intro @e_pick_s <| And.intro @e_pick_i <| And.intro @e_pick_b <| And.intro @e_pick_l <| And.intro @e_pick_d <| And.intro @e_subs_l <| And.intro @e_subs_r <| And.intro @e_subs_t <| And.intro @e_subs_s <| And.intro @e_subs_d <| And.intro @e_subs1 <| And.intro @e_subsS <| And.intro @e_oNone <| And.intro @e_oSome <| And.intro @e_oSome1 <| And.intro @e_sl <| And.intro @e_sl1 <| And.intro @e_sl2 <| And.intro @e_sl_s <| And.intro @e_sl_l <| And.intro @e_sl_r <| And.intro @e_newL <| And.intro @e_newN <| And.intro @e_len_l <| And.intro @e_len_r <| And.intro @e_len_t <| And.intro @e_len_d <| And.intro @e_len_s <| And.intro @e_sum <| And.intro @e_all <| And.intro @e_any <| And.intro @e_m1 <| And.intro @e_m11 <| And.intro @e_startsw <| And.intro @e_strip <| And.intro @e_lstrip <| And.intro @e_split <| And.intro @e_join <| And.intro @e_iOf <| And.intro @e_it_l <| And.intro @e_it_r <| And.intro @e_it_t <| And.intro @e_it_s <| And.intro @e_range1 <| And.intro @e_rg1 <| And.intro @e_for <| And.intro @e_for1 <| And.intro @e_tTrue <| And.intro @e_step <| And.intro @e_step_t <| And.intro @e_step_f <| And.intro @e_step2 <| And.intro @e_bind1 <| And.intro @e_call <| And.intro @e_call1 <| And.intro @e_call_s <| And.intro @e_call_i <| And.intro @e_call_b <| And.intro @e_call_n <| And.intro @e_call_l <| And.intro @e_call_d <| And.intro @e_isi_s <| And.intro @e_cut_hi <| And.intro @e_cut_lo <| And.intro @e_cut_mid <| And.intro @e_cut_last <| And.intro @e_cut_init <| And.intro @e_rv_rol <| And.intro @e_par <| And.intro @e_par2 <| And.intro @e_par3 <| And.intro @e_wh1_t <| And.intro @e_wh1_f <| And.intro @e_wh2_nx <| And.intro @e_wh2_ct <| And.intro @e_wh2_bk <| And.intro @e_wh2_rt <| And.intro @e_sorted_s <| And.intro @e_list_d <| And.intro @e_sorted_t <| And.intro @e_sortSet_s <| And.intro @e_lenSet_s <| And.intro @e_min_s <| And.intro @e_max_i <| And.intro @e_chain <| And.intro @e_chain1 <| And.intro @e_chain2 <| And.intro @e_chain_t <| And.intro @e_chain_f <| And.intro @e_isi_l <| And.intro @e_isi_t <| And.intro @e_isi_ss <| And.intro @e_rv_tupF <| And.intro @e_rv_tupS <| And.intro @e_rv_tupD <| And.intro @e_pick_tF <| And.intro @e_pick_tS <| And.intro @e_call_tF <| And.intro @e_call_lS <| And.intro @e_flat0 <| And.intro @e_flat_s <| And.intro @e_flat_i <| And.intro @e_flat_b <| And.intro @e_flat_n <| And.intro @e_flat_l <| And.intro @e_newLs <| And.intro @e_newLi <| And.intro @e_at0 <| And.intro @e_at1 <| And.intro @e_at2 <| And.intro @e_at3 <| And.intro @e_atL <| And.intro @e_subs_map <| And.intro @e_put <| And.intro @e_get2 <| And.intro @e_lm <| And.intro @e_lidx <| And.intro @e_lcnt <| And.intro @e_max2 <| And.intro @e_cont <| And.intro @e_any_ss <| And.intro @e_in_ss <| And.intro @e_in_dd <| And.intro @e_rev_l <| And.intro @e_list_l <| And.intro @e_ne0 <| And.intro @e_dic0 <| And.intro @e_down_cons <| And.intro @e_down_some <| And.intro @e_down_none <| And.intro @e_unp <| And.intro @e_unp2 <| And.intro @e_unp3 <| And.intro @e_keys <| And.intro @e_bindL0 <| And.intro @e_bindLS <| And.intro @e_rv_fDD <| And.intro @e_rv_fDR <| And.intro @e_rv_fDS <| And.intro @e_call_fD <| And.intro @e_in_fD <| And.intro @e_list_fD <| And.intro @e_len_fD <| And.intro @e_dict_fD <| And.intro @e_sub_fD <| And.intro @List.length_cons.{0} <| And.intro @List.length_map.{0,0} <| And.intro @List.length_nil.{0} <| And.intro @List.map_cons.{0,0} <| And.intro @List.map_nil.{0,0} <| And.intro @List.replicate_succ.{0} <| And.intro @List.replicate_zero.{0} <| And.intro @List.set_cons_zero.{0} <| And.intro @List.set_cons_succ.{0} <| And.intro @List.cons_append.{0} <| And.intro @List.nil_append.{0} <| And.intro @List.append_nil.{0} <| And.intro @Nat.zero_add <| And.intro @Nat.add_zero <| And.intro @Nat.zero_lt_succ <| And.intro @Nat.lt_add_left_iff_pos <| @Nat.succ_pos
def prD (f : Tx → Tx) (x : Tx) : Dat := .tup [.str x, .str (f x)]
def prsD (ks : List Tx) (f : Tx → Tx) : Dat := .lst (ks.map (prD f))
theorem e_rv_ltsD {i : Nat} {ls : List Letter} : rVar i (ltsD ls) .deep = ⟨ltsD ls, false, [i], some [i]⟩ := (rfl)
theorem e_rv_ltsR {i : Nat} {ls : List Letter} : rVar i (ltsD ls) .root = ⟨ltsD ls, false, [i], none⟩ := (rfl)
theorem e_rv_ltsS {i : Nat} {ls : List Letter} : rVar i (ltsD ls) .shr = ⟨ltsD ls, false, [i], none⟩ := (rfl)
theorem e_call_lts {rs : List Rs} {ls : List Letter} : fCall2 rs (ltsD ls, true) = .ok ⟨ltsD ls, false, [], some []⟩ := (rfl)
theorem e_rv_prsD {i : Nat} {ks : List Tx} {f : Tx → Tx} : rVar i (prsD ks f) .deep = ⟨prsD ks f, false, [i], some [i]⟩ := (rfl)
theorem e_rv_prsS {i : Nat} {ks : List Tx} {f : Tx → Tx} : rVar i (prsD ks f) .shr = ⟨prsD ks f, false, [i], none⟩ := (rfl)
theorem e_call_prs {rs : List Rs} {ks : List Tx} {f : Tx → Tx} : fCall2 rs (prsD ks f, true) = .ok ⟨prsD ks f, false, [], some []⟩ := (rfl)
theorem e_isi_lts {own : Tx → Option Bool} {rt : Bool} {s : List Nat} {m : Option (List Nat)} {ls : List Letter} : gIsi (isT "list") own ⟨ltsD ls, rt, s, m⟩ = .ok ⟨.bl true, false, [], some []⟩ := e_isi_l
theorem e_isi_prs {own : Tx → Option Bool} {rt : Bool} {s : List Nat} {m : Option (List Nat)} {ks : List Tx} {f : Tx → Tx} : gIsi (isT "list") own ⟨prsD ks f, rt, s, m⟩ = .ok ⟨.bl true, false, [], some []⟩ := e_isi_l
theorem e_len_lts {rt : Bool} {s : List Nat} {m : Option (List Nat)} {ls : List Letter} : gLen ⟨ltsD ls, rt, s, m⟩ = .ok ⟨.int ls.length, false, [], some []⟩ := by
  show Res.ok (rsF (.int (ls.map ltD).length)) = _
  rw [List.length_map]
  rfl
theorem okE_prs {ks : List Tx} {f : Tx → Tx} : okE 20 (prsD ks f) = true := by
  unfold prsD
  rw [okE_lst, List.all_eq_true]
  intro d hd
  obtain ⟨x, _, rfl⟩ := List.mem_map.mp hd
  rfl
theorem okE_strs {n : Nat} {xs : List Tx} : okE (n + 2) (.lst (xs.map .str)) = true := by
  rw [okE_lst, List.all_eq_true]
  intro d hd
  obtain ⟨x, _, rfl⟩ := List.mem_map.mp hd
  rfl
theorem okE_lt {n : Nat} {l : Letter} : okE (n + 3) (ltD l) = true := by
  unfold ltD
  rw [okE_tup]
  simp only [List.all_cons, List.all_nil, okE_strs, Bool.and_true]
  rfl
theorem okE_lts {n : Nat} {ls : List Letter} : okE (n + 4) (ltsD ls) = true := by
  unfold ltsD
  rw [okE_lst, List.all_eq_true]
  intro d hd
  obtain ⟨l, _, rfl⟩ := List.mem_map.mp hd
  exact okE_lt
theorem flat_prs {ks : List Tx} {f : Tx → Tx} : flatL (ks.map (prD f)) = true := by
  rw [flatL_all, List.all_eq_true]
  intro d hd
  obtain ⟨x, _, rfl⟩ := List.mem_map.mp hd
  rfl
theorem sort_wantK {ls : List Letter} (h : (ls.map (·.nm)).Nodup) : sortT (wantK ls) = namesL ls := by
  rw [sortT_congr (wantK_perm h)]
  exact sortT_id (namesL_up ls)
theorem sort_names {ls : List Letter} {ks : List Tx} (hn : ks.Nodup) (hm : ∀ x, x ∈ ks ↔ x ∈ namesL ls) : sortT ks = namesL ls := by
  rw [sortT_congr (perm_of hn (namesL_nodup ls) hm)]
  exact sortT_id (namesL_up ls)
/-- where each name of these letters stands -/
noncomputable abbrev parL (ls : List Letter) : Tx → Tx := par (want ls)
theorem parentsE {ls : List Letter} (h : LtsOk ls) : c_parents [ltsD ls] = .ok (prsD (namesL ls) (parL ls), true) := by
  have hkl : (wantK ls).length ≤ 45 := by
    rw [(wantK_perm h.nod).length_eq]
    exact namesL_len h.few
  have hnl := namesL_len h.few
  have er : rVar 0 (ltsD ls) .shr = ⟨ltsD ls, false, [0], none⟩ := rfl
  have ec : ∀ rs b, fCall2 rs (.non, b) = .ok ⟨.non, false, [], some []⟩ := fun _ _ => rfl
  have hs := fun rt s m => e_sorted_s (rt := rt) (s := s) (m := m) (xs := wantK ls) (by omega)
  rw [sort_wantK h.nod] at hs
  have hi : iOf (fOne gSorted (fOne gList (fVar 1))) [some (ltsD ls, .shr), some (fD (wantK ls) (parL ls), .deep), none] = .ok ((namesL ls).map Dat.str, []) := by
    simp only [pvs_Pairs, Nat.reduceSub, Nat.reduceAdd, Nat.reduceLT, Nat.reduceLeDiff, Nat.reduceEqDiff, decide_true, decide_false, Bool.not_true, Bool.not_false, reduceCtorEq, eq_self, if_true, if_false, hs]
  obtain ⟨s, hc⟩ := comp_flat0 (T := .one 2) (own := [2]) (fi := iOf (fOne gSorted (fOne gList (fVar 1)))) (fe := y_parents_1) (E := [some (ltsD ls, .shr), some (fD (wantK ls) (parL ls), .deep), none]) (xs := namesL ls) (e := Dat.str) (l := []) (prD (parL ls)) hi (by omega) (fun x hx => ⟨_, rfl, false, [], by
    have hx' : x ∈ wantK ls := mem_wantK.mpr hx
    unfold y_parents_1
    simp only [pvs_Pairs, Nat.reduceSub, Nat.reduceAdd, Nat.reduceLT, Nat.reduceLeDiff, Nat.reduceEqDiff, decide_true, decide_false, Bool.not_true, Bool.not_false, reduceCtorEq, eq_self, if_true, if_false, (by decide : (2 : Nat) ≤ 1000000), e_sub_fD hx']
    rfl⟩)
  unfold c_parents g_parents
  simp only [pvs_Pairs, Nat.reduceSub, Nat.reduceAdd, Nat.reduceLT, Nat.reduceLeDiff, Nat.reduceEqDiff, decide_true, decide_false, Bool.not_true, Bool.not_false, reduceCtorEq, eq_self, if_true, if_false, er, checkE h, ec, parentsOfE h, ↓hc]
  rfl
/-! ### letters in another order -/
theorem LtsOk.perm {ls ms : List Letter} (h : LtsOk ls) (p : ls.Perm ms) : LtsOk ms :=
  ⟨by rw [← p.length_eq]; exact h.len, (p.map _).nodup_iff.mp h.nod, fun l hl => h.all l (p.mem_iff.mpr hl)⟩
theorem namesL_perm {ls ms : List Letter} (p : ls.Perm ms) : namesL ls = namesL ms := by
  refine up_eq (namesL_up _) (namesL_up _) (perm_of (namesL_nodup _) (namesL_nodup _) fun x => ?_)
  rw [mem_namesL, mem_namesL]
  exact ⟨fun ⟨l, hl, q⟩ => ⟨l, p.mem_iff.mp hl, q⟩, fun ⟨l, hl, q⟩ => ⟨l, p.mem_iff.mpr hl, q⟩⟩
theorem want_perm {ls ms : List Letter} (h : (ls.map (·.nm)).Nodup) (p : ls.Perm ms) : want ls = want ms := by
  have h2 : (ms.map (·.nm)).Nodup := (p.map _).nodup_iff.mp h
  funext x
  by_cases hx : x ∈ ls.map (·.nm)
  · obtain ⟨l, hl, rfl⟩ := List.mem_map.mp hx
    rw [want_nm h hl, want_nm h2 (p.mem_iff.mp hl)]
  · have hx2 : x ∉ ms.map (·.nm) := fun z => hx ((p.map _).mem_iff.mpr z)
    rw [want_gap hx, want_gap hx2]
    exact best_congr (p.filterMap _)
theorem parL_perm {ls ms : List Letter} (h : (ls.map (·.nm)).Nodup) (p : ls.Perm ms) : parL ls = parL ms := by
  unfold parL
  rw [want_perm h p]
/-! ### copied; sorted -/
theorem copiedE {ls : List Letter} (h : ls.length ≤ 1000) : c__law_copied [ltsD ls] = .ok (ltsD ls, true) := by
  obtain ⟨s, hc⟩ := comp_flat0 (T := .many [1, 2, 3]) (own := [1, 2, 3]) (fi := iOf (fVar 0)) (fe := y__law_copied_1) (E := [some (.lst (ls.map ltD), .shr), none, none, none]) (xs := ls) (e := ltD) (l := [0]) ltD rfl (by omega) (fun l _ => by
    refine ⟨[some (.lst (ls.map ltD), .shr), some (.str l.nm, .shr), some (.lst (l.ans.map .str), .shr), some (.str l.ttl, .shr)], rfl, false, [2], ?_⟩
    unfold y__law_copied_1
    simp only [pvs_Pairs, Nat.reduceSub, Nat.reduceAdd, Nat.reduceLT, Nat.reduceLeDiff, Nat.reduceEqDiff, decide_true, decide_false, Bool.not_true, Bool.not_false, reduceCtorEq, eq_self, if_true, if_false, (by decide : (3 : Nat) ≤ 1000000)]
    rfl)
  unfold c__law_copied g__law_copied ltsD
  simp only [pvs_Pairs, Nat.reduceSub, Nat.reduceAdd, Nat.reduceLT, Nat.reduceLeDiff, Nat.reduceEqDiff, decide_true, decide_false, Bool.not_true, Bool.not_false, reduceCtorEq, eq_self, if_true, if_false, ↓hc]
theorem alike_strs : ∀ xs ys : List Tx, PySem.W.alikeAll (xs.map fun x => PyData.str (mkS x)) (ys.map fun x => PyData.str (mkS x)) = true
  | [], _ => by simp only [List.map_nil, PySem.W.alikeAll]
  | _ :: _, [] => by simp only [List.map_cons, List.map_nil, PySem.W.alikeAll]
  | x :: xs, y :: ys => by
    simp only [List.map_cons, PySem.W.alikeAll, PySem.W.alike, Bool.true_and]
    exact alike_strs xs ys
def sortL (ls : List Letter) : List Letter := sortB (byK (·.nm)) ls
theorem sortL_perm (ls : List Letter) : (sortL ls).Perm ls := sortB_perm _ ls
theorem e_sorted_lt {ls : List Letter} (h : LtsOk ls) {rt : Bool} {s : List Nat} {m : Option (List Nat)} : gSorted ⟨ltsD ls, rt, s, m⟩ = .ok (rNewL ((sortL ls).map ltD) s) := by
  have hl := h.len
  exact e_sorted_t (e := ltD) (k := (·.nm)) (r := fun l => [.lst (l.ans.map .str), .str l.ttl]) (P := fun l => [.list (l.ans.map fun x => PyData.str (mkS x)), .str (mkS l.ttl)]) (by omega) (fun _ _ => rfl) (fun l _ => by
    simp only [toPDs, toPD, toPDs_strs, Option.map_some]) h.nod (fun l _ m _ => by
    simp only [PySem.W.alikeAll, PySem.W.alike, alike_strs, Bool.and_self]) fun l _ => by
    simp only [PyData.depthAll, PyData.depth, depth_strs]
    decide
/-- pairs, sorted -/
theorem e_sorted_pr {ks : List Tx} {f : Tx → Tx} (hn : ks.Nodup) (hl : ks.length ≤ 1000) {rt : Bool} {s : List Nat} {m : Option (List Nat)} : gSorted ⟨.lst (ks.map (prD f)), rt, s, m⟩ = .ok ⟨prsD (sortT ks) f, true, s, some []⟩ := by
  have h1 : (ks.map id).Nodup := by rw [List.map_id]; exact hn
  have := e_sorted_t (α := Tx) (e := prD f) (k := id) (r := fun x => [.str (f x)]) (P := fun x => [.str (mkS (f x))]) (xs := ks) (rt := rt) (s := s) (m := m) (by omega) (fun _ _ => rfl) (fun x _ => rfl) h1 (fun _ _ _ _ => rfl) fun x _ => by
    simp only [PyData.depthAll, PyData.depth]
    decide
  rw [this]
  have e : sortB (byK id) ks = sortT ks := rfl
  rw [e, e_newL flat_prs]
  rfl
end PV

/-! the law k02 -/
namespace PV
open PySem PySem.Spec L2
def pvs_K02 := And.intro @e_bok <| And.intro @e_bexc <| And.intro @fin_rt <| And.intro @fin_nx <| And.intro @fin_exc <| And.intro @run1 <| And.intro @run2 <| And.intro @run3 <| And.intro @run4 <| And.intro @e_seq <| And.intro @e_seq_nx <| And.intro @e_seq_rt <| And.intro @e_seq_bk <| And.intro @e_seq_ct <| And.intro @e_nil <| And.intro @e_pass <| And.intro @e_brk <| And.intro @e_cnt <| And.intro @e_retN <| And.intro @e_raise <| And.intro @e_drop <| And.intro @e_drop1 <| And.intro @e_ret <| And.intro @take_flat <| And.intro @e_ret_deep <| And.intro @e_ret_one <| And.intro @e_ret_none <| And.intro @e_if <| And.intro @e_if_t <| And.intro @e_if_f <| And.intro @e_set <| And.intro @e_set_deep <| And.intro @e_set_none <| And.intro @e_down_nil <| And.intro @e_wipe_nil <| And.intro @e_wipe <| And.intro @e_c <| And.intro @e_slot0 <| And.intro @e_slotS <| And.intro @e_var <| And.intro @e_var1 <| And.intro @e_rv_int <| And.intro @e_rv_str <| And.intro @e_rv_bl <| And.intro @e_rv_non <| And.intro @e_rv_lstD <| And.intro @e_rv_lstR <| And.intro @e_rv_lstS <| And.intro @e_rv_dicD <| And.intro @e_rv_dicR <| And.intro @e_rv_dicS <| And.intro @e_bin <| And.intro @e_bin1 <| And.intro @e_one <| And.intro @e_tOf <| And.intro @e_toB <| And.intro @e_tNot <| And.intro @e_tNot1 <| And.intro @e_tAnd <| And.intro @e_tOr <| And.intro @e_tAnd_t <| And.intro @e_tAnd_f <| And.intro @e_tOr_t <| And.intro @e_tOr_f <| And.intro @e_and <| And.intro @e_or <| And.intro @e_and_t <| And.intro @e_and_f <| And.intro @e_or_t <| And.intro @e_or_f <| And.intro @e_not <| And.intro @e_not1 <| And.intro @e_neg <| And.intro @e_neg1 <| And.intro @e_ife <| And.intro @e_ife_t <| And.intro @e_ife_f <| And.intro @e_aNil <| And.intro @e_aCons <| And.intro @e_aCons1 <| And.intro @e_aCons2 <| And.intro @e_tup <| And.intro @e_lst <| And.intro @e_tup1 <| And.intro @e_lst1 <| And.intro @e_src0 <| And.intro @e_srcS <| And.intro @e_mv0 <| And.intro @e_mvS <| And.intro @e_mvN <| And.intro @e_mvC <| And.intro @e_mvC0 <| And.intro @e_add_i <| And.intro @e_add_s <| And.intro @e_add_l <| And.intro @e_sub <| And.intro @e_mod <| And.intro @e_fdv <| And.intro @e_mul <| And.intro @e_mul_s <| And.intro @e_pow18 <| And.intro @e_lt <| And.intro @e_le <| And.intro @e_gt <| And.intro @e_ge <| And.intro @e_eq <| And.intro @e_ne <| And.intro @e_eq1 <| And.intro @e_ne1 <| And.intro @eqF_s <| And.intro @eqF_i <| And.intro @eqF_b <| And.intro @eqF_ln <| And.intro @eqF_rn <| And.intro @e_in_s <| And.intro @e_in_l <| And.intro @e_in_r <| And.intro @e_in_t <| And.intro @e_in_d <| And.intro @e_in1 <| And.intro @e_rsB_f <| And.intro @e_rsB_t <| And.intro @e_pick_s <| And.intro @e_pick_i <| And.intro @e_pick_b <| And.intro @e_pick_l <| And.intro @e_pick_d <| And.intro @e_subs_l <| And.intro @e_subs_r <| And.intro @e_subs_t <| And.intro @e_subs_s <| And.intro @e_subs_d <| And.intro @e_subs1 <| And.intro @e_subsS <| And.intro @e_oNone <| And.intro @e_oSome <| And.intro @e_oSome1 <| And.intro @e_sl <| And.intro @e_sl1 <| And.intro @e_sl2 <| And.intro @e_sl_s <| And.intro @e_sl_l <| And.intro @e_sl_r <| And.intro @e_newL <| And.intro @e_newN <| And.intro @e_len_l <| And.intro @e_len_r <| And.intro @e_len_t <| And.intro @e_len_d <| And.intro @e_len_s <| And.intro @e_sum <| And.intro @e_all <| And.intro @e_any <| And.intro @e_m1 <| And.intro @e_m11 <| And.intro @e_startsw <| And.intro @e_strip <| And.intro @e_lstrip <| And.intro @e_split <| And.intro @e_join <| And.intro @e_iOf <| And.intro @e_it_l <| And.intro @e_it_r <| And.intro @e_it_t <| And.intro @e_it_s <| And.intro @e_range1 <| And.intro @e_rg1 <| And.intro @e_for <| And.intro @e_for1 <| And.intro @e_tTrue <| And.intro @e_step <| And.intro @e_step_t <| And.intro @e_step_f <| And.intro @e_step2 <| And.intro @e_bind1 <| And.intro @e_call <| And.intro @e_call1 <| And.intro @e_call_s <| And.intro @e_call_i <| And.intro @e_call_b <| And.intro @e_call_n <| And.intro @e_call_l <| And.intro @e_call_d <| And.intro @e_isi_s <| And.intro @e_cut_hi <| And.intro @e_cut_lo <| And.intro @e_cut_mid <| And.intro @e_cut_last <| And.intro @e_cut_init <| And.intro @e_rv_rol <| And.intro @e_par <| And.intro @e_par2 <| And.intro @e_par3 <| And.intro @e_wh1_t <| And.intro @e_wh1_f <| And.intro @e_wh2_nx <| And.intro @e_wh2_ct <| And.intro @e_wh2_bk <| And.intro @e_wh2_rt <| And.intro @e_sorted_s <| And.intro @e_list_d <| And.intro @e_sorted_t <| And.intro @e_sortSet_s <| And.intro @e_lenSet_s <| And.intro @e_min_s <| And.intro @e_max_i <| And.intro @e_chain <| And.intro @e_chain1 <| And.intro @e_chain2 <| And.intro @e_chain_t <| And.intro @e_chain_f <| And.intro @e_isi_l <| And.intro @e_isi_t <| And.intro @e_isi_ss <| And.intro @e_rv_tupF <| And.intro @e_rv_tupS <| And.intro @e_rv_tupD <| And.intro @e_pick_tF <| And.intro @e_pick_tS <| And.intro @e_call_tF <| And.intro @e_call_lS <| And.intro @e_flat0 <| And.intro @e_flat_s <| And.intro @e_flat_i <| And.intro @e_flat_b <| And.intro @e_flat_n <| And.intro @e_flat_l <| And.intro @e_newLs <| And.intro @e_newLi <| And.intro @e_at0 <| And.intro @e_at1 <| And.intro @e_at2 <| And.intro @e_at3 <| And.intro @e_atL <| And.intro @e_subs_map <| And.intro @e_put <| And.intro @e_get2 <| And.intro @e_lm <| And.intro @e_lidx <| And.intro @e_lcnt <| And.intro @e_max2 <| And.intro @e_cont <| And.intro @e_any_ss <| And.intro @e_in_ss <| And.intro @e_in_dd <| And.intro @e_rev_l <| And.intro @e_list_l <| And.intro @e_ne0 <| And.intro @e_dic0 <| And.intro @e_down_cons <| And.intro @e_down_some <| And.intro @e_down_none <| And.intro @e_unp <| And.intro @e_unp2 <| And.intro @e_unp3 <| And.intro @e_keys <| And.intro @e_bindL0 <| And.intro @e_bindLS <| And.intro @e_rv_fDD <| And.intro @e_rv_fDR <| And.intro @e_rv_fDS <| And.intro @e_call_fD <| And.intro @e_in_fD <| And.intro @e_list_fD <| And.intro @e_len_fD <| And.intro @e_dict_fD <| And.intro @e_sub_fD <| And.intro @e_rv_ltsD <| And.intro @e_rv_ltsR <| And.intro @e_rv_ltsS <| And.intro @e_call_lts <| And.intro @e_rv_prsD <| And.intro @e_rv_prsS <| And.intro @e_call_prs <| And.intro @e_isi_lts <| And.intro @e_isi_prs <| And.intro @e_len_lts <| And.intro @e_sorted_lt <| And.intro @e_sorted_pr <| And.intro @List.length_cons.{0} <| And.intro @List.length_map.{0,0} <| And.intro @List.length_nil.{0} <| And.intro @List.map_cons.{0,0} <| And.intro @List.map_nil.{0,0} <| And.intro @List.replicate_succ.{0} <| And.intro @List.replicate_zero.{0} <| And.intro @List.set_cons_zero.{0} <| And.intro @List.set_cons_succ.{0} <| And.intro @List.cons_append.{0} <| And.intro @List.nil_append.{0} <| And.intro @List.append_nil.{0} <| And.intro @Nat.zero_add <| And.intro @Nat.add_zero <| And.intro @Nat.zero_lt_succ <| And.intro @Nat.lt_add_left_iff_pos <| @Nat.succ_pos
theorem eqF_lts {ls : List Letter} : eqF (ltsD ls) (ltsD ls) = .ok true := eqF_self okE_lts
theorem eqF_prs {ks : List Tx} {f : Tx → Tx} : eqF (prsD ks f) (prsD ks f) = .ok true := eqF_self okE_prs
theorem eqF_ltsn {ls : List Letter} : eqF (ltsD ls) (.lst []) = .ok (decide (ls.length = 0)) := by
  unfold ltsD
  rw [eqF_ln, List.length_map]
def E2 (S : Dat) (W : Int) (x2 x3 x4 x5 x6 x7 x8 x9 x10 x11 : Option (Dat × Kd)) : Sto := [some (S, .shr), some (.int W, .deep), x2, x3, x4, x5, x6, x7, x8, x9, x10, x11]
/-- the due pairs -/
theorem dueE {ls : List Letter} {ks : List Tx} (hn : ks.Nodup) (hm : ∀ x, x ∈ ks ↔ x ∈ namesL ls) {f : Tx → Tx} {k5 : Kd} {S : Dat} {W : Int} {x2 x3 x4 x6 x7 x8 x9 x10 x11 : Option (Dat × Kd)} (hk : ks.length ≤ 45) (fe : Sto → Res Rs) (hfe : fe = fTup (aCons (fVar 11) (aCons (fBin gSubs (fVar 5) (fVar 11)) aNil))) :
    ∃ s, fOne gSorted (fComp (.one 11) [11] (iKeysF 5) tTrue fe) (E2 S W x2 x3 x4 (some (fD ks f, k5)) x6 x7 x8 x9 x10 x11) = .ok ⟨prsD (namesL ls) f, true, s, some []⟩ := by
  obtain ⟨s, hc⟩ := comp_flat0 (T := .one 11) (own := [11]) (fi := iKeysF 5) (fe := fe) (E := E2 S W x2 x3 x4 (some (fD ks f, k5)) x6 x7 x8 x9 x10 x11) (xs := ks) (e := Dat.str) (l := [5]) (prD f) rfl (by omega) (fun x hx => ⟨_, rfl, false, [], by
    subst hfe
    cases k5 <;>
    · simp only [pvs_K02, Nat.reduceSub, Nat.reduceAdd, Nat.reduceLT, Nat.reduceLeDiff, Nat.reduceEqDiff, decide_true, decide_false, Bool.not_true, Bool.not_false, reduceCtorEq, eq_self, if_true, if_false, E2, (by decide : (2 : Nat) ≤ 1000000), e_sub_fD hx]
      rfl⟩)
  refine ⟨s, ?_⟩
  rw [e_one, hc, e_bok, e_sorted_pr hn (by omega), sort_names hn hm]
theorem k02_1 {S : Dat} {W : Int} {ls : List Letter} (h : LtsOk ls) {ks : List Tx} (hn : ks.Nodup) (hm : ∀ x, x ∈ ks ↔ x ∈ namesL ls) {x2 x6 x7 x8 x9 x10 x11 : Option (Dat × Kd)} :
    ∃ y7, b_law_1 (E2 S W x2 (some (ltsD ls, .deep)) (some (ltsD ls, .deep)) (some (fD ks (parL ls), .deep)) x6 x7 x8 x9 x10 x11) = .ok (.nx (E2 S W x2 (some (ltsD ls, .deep)) (some (ltsD ls, .deep)) (some (fD ks (parL ls), .deep)) x6 y7 x8 x9 x10 x11)) := by
  have hk : ks.length ≤ 45 := by
    rw [(perm_of hn (namesL_nodup ls) hm).length_eq]
    exact namesL_len h.few
  have hnl := namesL_len h.few
  obtain ⟨s, h1⟩ := dueE (ls := ls) hn hm (f := parL ls) (k5 := .deep) (S := S) (W := W) (x2 := x2) (x3 := some (ltsD ls, .deep)) (x4 := some (ltsD ls, .deep)) (x6 := x6) (x7 := some (prsD (namesL ls) (parL ls), .deep)) (x8 := x8) (x9 := x9) (x10 := x10) (x11 := x11) hk y_law_1 rfl
  obtain ⟨s2, h2⟩ := comp_flat0 (T := .one 10) (own := [10]) (fi := iOf (fVar 7)) (fe := y_law_2) (E := E2 S W x2 (some (ltsD ls, .deep)) (some (ltsD ls, .deep)) (some (fD ks (parL ls), .deep)) x6 (some (prsD (namesL ls) (parL ls), .deep)) x8 x9 x10 x11) (xs := namesL ls) (e := prD (parL ls)) (l := [7]) (fun _ => .bl true) rfl (by omega) (fun x _ => ⟨_, rfl, false, [], rfl⟩)
  have hg : ∀ {rt : Bool} {s : List Nat} {m : Option (List Nat)}, gAll ⟨.lst ((namesL ls).map fun _ => .bl true), rt, s, m⟩ = .ok ⟨.bl true, false, [], some []⟩ := by
    intro rt s m
    rw [gAll_F (f := fun _ => true)]
    simp
  have h3 := app_ok (i := 7) (f := fTup (aCons (fC (.str [])) (aCons (fC (.str [])) aNil))) (xs := (namesL ls).map (prD (parL ls))) (d := .tup [.str [], .str []]) (E := E2 S W x2 (some (ltsD ls, .deep)) (some (ltsD ls, .deep)) (some (fD ks (parL ls), .deep)) x6 (some (prsD (namesL ls) (parL ls), .deep)) x8 x9 x10 x11) rfl (by rw [List.length_map]; omega) rfl
  refine ⟨some (.lst ((namesL ls).map (prD (parL ls)) ++ [.tup [.str [], .str []]]), .deep), ?_⟩
  unfold b_law_1
  unfold E2 at h1 h2 h3 ⊢
  simp only [pvs_K02, Nat.reduceSub, Nat.reduceAdd, Nat.reduceLT, Nat.reduceLeDiff, Nat.reduceEqDiff, decide_true, decide_false, Bool.not_true, Bool.not_false, reduceCtorEq, eq_self, if_true, if_false, parentsE h, ↓h1, eqF_prs, eqF_lts, ↓h2, hg, ↓h3]
theorem k02_2 {S : Dat} {W : Int} {ls ms : List Letter} (h : LtsOk ls) (p : ls.Perm ms) {ks : List Tx} (hn : ks.Nodup) (hm : ∀ x, x ∈ ks ↔ x ∈ namesL ls) {x2 x3 x4 x6 x7 x8 x10 x11 : Option (Dat × Kd)} :
    b_law_2 (E2 S W x2 x3 x4 (some (fD ks (parL ls), .deep)) x6 x7 x8 (some (ltsD ms, .shr)) x10 x11) = .ok (.nx (E2 S W x2 x3 x4 (some (fD ks (parL ls), .deep)) x6 x7 x8 (some (ltsD ms, .shr)) x10 x11)) := by
  have hk : ks.length ≤ 45 := by
    rw [(perm_of hn (namesL_nodup ls) hm).length_eq]
    exact namesL_len h.few
  obtain ⟨s, h1⟩ := dueE (ls := ls) hn hm (f := parL ls) (k5 := .deep) (S := S) (W := W) (x2 := x2) (x3 := x3) (x4 := x4) (x6 := x6) (x7 := x7) (x8 := x8) (x9 := some (ltsD ms, .shr)) (x10 := x10) (x11 := x11) hk y_law_3 rfl
  have h2 := parentsE (h.perm p)
  rw [← namesL_perm p, ← parL_perm h.nod p] at h2
  unfold b_law_2
  unfold E2 at h1 ⊢
  simp only [pvs_K02, Nat.reduceSub, Nat.reduceAdd, Nat.reduceLT, Nat.reduceLeDiff, Nat.reduceEqDiff, decide_true, decide_false, Bool.not_true, Bool.not_false, reduceCtorEq, eq_self, if_true, if_false, h2, ↓h1, eqF_prs]
theorem rot_perm (ls : List Letter) (n : Nat) : ls.Perm (ls.drop n ++ ls.take n) := by
  have h : (ls.take n ++ ls.drop n).Perm (ls.drop n ++ ls.take n) := List.perm_append_comm
  rwa [List.take_append_drop] at h
theorem newL_lts {ls : List Letter} {s : List Nat} : ∃ m, rNewL (ls.map ltD) s = ⟨ltsD ls, true, s, m⟩ ∧ (m = none ∨ m = some []) := by
  unfold rNewL
  by_cases h : flatL (ls.map ltD) = true
  · rw [if_pos h]
    exact ⟨_, rfl, .inr rfl⟩
  · rw [if_neg h]
    exact ⟨_, rfl, .inl rfl⟩
theorem flat_lts {ls : List Letter} (h : ls.length ≠ 0) : flatL (ls.map ltD) = false := by
  cases ls with
  | nil => exact absurd rfl h
  | cons a ls => rfl
theorem k02_3 {ns : List Int} (hl : ns.length ≤ 63) (hb : ∀ z ∈ ns, Builtin.Int.intBits z ≤ 1048576) {W : Int} {by_ : Nat} (hby : by_ < 4) {x3 x4 x5 x6 x7 x8 x9 x10 x11 : Option (Dat × Kd)} :
    ∃ y3 y4 y5 y6 y7 y8 y9, b_law_3 (E2 (.rol (ns.map .int)) W (some (.int by_, .shr)) x3 x4 x5 x6 x7 x8 x9 x10 x11) = .ok (.nx (E2 (.rol (ns.map .int)) W (some (.int by_, .shr)) y3 y4 y5 y6 y7 y8 y9 x10 x11)) := by
  obtain ⟨ls, h, _, hlt⟩ := lettersE hl hb (by_ := by_) (most := 9) (by omega) (by decide)
  obtain ⟨ks, hn, hm, hp⟩ := lparentsE h
  have hl9 := h.len
  have hinv := forGo_rel (T := .one 6) (g := b_law_1) (fun (i : Nat) => Dat.int i) (fun (b : Unit) _ => b) (fun _ E => ∃ x6 x7, E = E2 (.rol (ns.map .int)) W (some (.int by_, .shr)) (some (ltsD ls, .deep)) (some (ltsD ls, .deep)) (some (fD ks (parL ls), .deep)) x6 x7 x8 x9 x10 x11) (xs := List.range 2) (b := ())
    (E := E2 (.rol (ns.map .int)) W (some (.int by_, .shr)) (some (ltsD ls, .deep)) (some (ltsD ls, .deep)) (some (fD ks (parL ls), .deep)) x6 x7 x8 x9 x10 x11) ?st ⟨x6, x7, rfl⟩
  case st =>
    rintro _ a E _ ⟨x6, x7, rfl⟩
    obtain ⟨y7, h7⟩ := k02_1 (S := .rol (ns.map .int)) (W := W) h hn hm (x2 := some (.int by_, .shr)) (x6 := some (.int a, .shr)) (x7 := x7) (x8 := x8) (x9 := x9) (x10 := x10) (x11 := x11)
    exact ⟨_, _, rfl, .inl h7, some (.int a, .shr), y7, rfl⟩
  obtain ⟨E', h1, z6, z7, rfl⟩ := hinv
  have e2 : (2 : Int).toNat = 2 := rfl
  have rg := e_rg1 (rt := false) (s := []) (m := some []) (j := (2 : Int)) (by decide)
  rw [e2] at rg
  have ec := copiedE (ls := ls) (by omega)
  have l2 : (2 : Nat) ≤ 1000000 := by decide
  have l0 : (0 : Nat) ≤ 1000000 := by decide
  have i9 : ((9 : Nat) : Int) = 9 := rfl
  rw [i9] at hlt
  by_cases hz : ls.length = 0
  · refine ⟨some (ltsD ls, .deep), some (ltsD ls, .deep), some (fD ks (parL ls), .deep), z6, z7, x8, x9, ?_⟩
    unfold b_law_3
    unfold E2 at h1 ⊢
    simp only [pvs_K02, Nat.reduceSub, Nat.reduceAdd, Nat.reduceLT, Nat.reduceLeDiff, Nat.reduceEqDiff, decide_true, decide_false, Bool.not_true, Bool.not_false, reduceCtorEq, eq_self, if_true, if_false, hlt, ec, hp, l2, l0, rg, h1, eqF_ltsn, hz]
  · have hpos : (0 : Int) < (ls.length : Int) := by omega
    have j0 : (0 : Int) ≤ W % (ls.length : Int) := Int.emod_nonneg _ (by omega)
    generalize ht : W % (ls.length : Int) = t at j0
    have hrev : ls.Perm ls.reverse := (List.reverse_perm ls).symm
    have hrot := rot_perm ls t.toNat
    have hsrt := (sortL_perm ls).symm
    have hinv := forGo_rel (T := .one 9) (g := b_law_2) ltsD (fun (b : Unit) _ => b) (fun _ E => ∃ x9, E = E2 (.rol (ns.map .int)) W (some (.int by_, .shr)) (some (ltsD ls, .shr)) (some (ltsD ls, .deep)) (some (fD ks (parL ls), .deep)) z6 z7 (some (.int t, .deep)) x9 x10 x11) (xs := [ls.reverse, ls.drop t.toNat ++ ls.take t.toNat, sortL ls]) (b := ())
      (E := E2 (.rol (ns.map .int)) W (some (.int by_, .shr)) (some (ltsD ls, .shr)) (some (ltsD ls, .deep)) (some (fD ks (parL ls), .deep)) z6 z7 (some (.int t, .deep)) x9 x10 x11) ?st2 ⟨x9, rfl⟩
    case st2 =>
      rintro _ ms E hms ⟨x9, rfl⟩
      have p : ls.Perm ms := by
        simp only [List.mem_cons, List.not_mem_nil, or_false] at hms
        rcases hms with rfl | rfl | rfl
        · exact hrev
        · exact hrot
        · exact hsrt
      exact ⟨_, _, rfl, .inl (k02_2 h p hn hm), some (ltsD ms, .shr), rfl⟩
    obtain ⟨E', h2, z9, rfl⟩ := hinv
    have hL : fLst (aCons (fOne gRev (fVar 3)) (aCons (fBin gAdd (fSl (fVar 3) (oSome (fVar 8)) oNone) (fSl (fVar 3) oNone (oSome (fVar 8)))) (aCons (fOne gSorted (fVar 3)) aNil))) (E2 (.rol (ns.map .int)) W (some (.int by_, .shr)) (some (ltsD ls, .deep)) (some (ltsD ls, .deep)) (some (fD ks (parL ls), .deep)) z6 z7 (some (.int t, .deep)) x9 x10 x11) = .ok ⟨.lst [ltsD ls.reverse, ltsD (ls.drop t.toNat ++ ls.take t.toNat), ltsD (sortL ls)], true, [3, 3, 3, 3], none⟩ := by
      have r1 : gRev ⟨ltsD ls, false, [3], some [3]⟩ = .ok ⟨ltsD ls.reverse, true, [3], none⟩ := by
        unfold ltsD
        rw [e_rev_l (by rw [List.length_map]; omega), ← List.map_reverse, e_newN (flat_lts (by rw [List.length_reverse]; exact hz))]
      have r2 : gSl ⟨ltsD ls, false, [3], some [3]⟩ (some t) none = .ok ⟨ltsD (ls.drop t.toNat), true, [3], if flatL ((ls.drop t.toNat).map ltD) then some [] else none⟩ := by
        unfold ltsD
        rw [e_sl_l (by rw [List.length_map]; omega), e_cut_lo j0, ← List.map_drop]
        rfl
      have r3 : gSl ⟨ltsD ls, false, [3], some [3]⟩ none (some t) = .ok ⟨ltsD (ls.take t.toNat), true, [3], if flatL ((ls.take t.toNat).map ltD) then some [] else none⟩ := by
        unfold ltsD
        rw [e_sl_l (by rw [List.length_map]; omega), e_cut_hi j0, ← List.map_take]
        rfl
      have r4 : ∀ m m', gAdd ⟨ltsD (ls.drop t.toNat), true, [3], m⟩ ⟨ltsD (ls.take t.toNat), true, [3], m'⟩ = .ok ⟨ltsD (ls.drop t.toNat ++ ls.take t.toNat), true, [3, 3], none⟩ := by
        intro m m'
        unfold ltsD
        rw [e_add_l (by rw [List.length_map, List.length_map, List.length_drop, List.length_take]; omega), ← List.map_append, e_newN (flat_lts (by rw [← hrot.length_eq]; exact hz))]
        rfl
      have r5 : gSorted ⟨ltsD ls, false, [3], some [3]⟩ = .ok ⟨ltsD (sortL ls), true, [3], none⟩ := by
        rw [e_sorted_lt h, e_newN (flat_lts (by rw [← hsrt.length_eq]; exact hz))]
        rfl
      unfold E2
      simp only [pvs_K02, Nat.reduceSub, Nat.reduceAdd, Nat.reduceLT, Nat.reduceLeDiff, Nat.reduceEqDiff, decide_true, decide_false, Bool.not_true, Bool.not_false, reduceCtorEq, eq_self, if_true, if_false, r1, r2, r3, r4, r5, (by decide : (3 : Nat) ≤ 1000000)]
    refine ⟨some (ltsD ls, .shr), some (ltsD ls, .deep), some (fD ks (parL ls), .deep), z6, z7, some (.int t, .deep), z9, ?_⟩
    have em : [ls.reverse, ls.drop t.toNat ++ ls.take t.toNat, sortL ls].map ltsD = [ltsD ls.reverse, ltsD (ls.drop t.toNat ++ ls.take t.toNat), ltsD (sortL ls)] := rfl
    rw [em] at h2
    unfold b_law_3
    unfold E2 at h1 h2 hL ⊢
    simp only [pvs_K02, Nat.reduceSub, Nat.reduceAdd, Nat.reduceLT, Nat.reduceLeDiff, Nat.reduceEqDiff, decide_true, decide_false, Bool.not_true, Bool.not_false, reduceCtorEq, eq_self, if_true, if_false, hlt, ec, hp, l2, l0, rg, h1, eqF_ltsn, hz, hpos, ht, ↓hL, h2]
theorem ex1 : c_parents [.lst [.tup [.str [98], .lst [.str [99]], .str []], .tup [.str [99], .lst [.str [98]], .str []]]] = .ok (.lst [.tup [.str [98], .str []], .tup [.str [99], .str [98]]], true) := outB_eq (by decide +kernel)
theorem ex2 : c_parents [.lst [.tup [.str [97], .lst [.str [122], .str [121]], .str []], .tup [.str [98], .lst [.str [122], .str [121]], .str []], .tup [.str [99], .lst [.str [120], .str [121]], .str []]]] = .ok (.lst [.tup [.str [97], .str [121]], .tup [.str [98], .str [121]], .tup [.str [99], .str [121]], .tup [.str [120], .str []], .tup [.str [121], .str [122]], .tup [.str [122], .str []]], true) := outB_eq (by decide +kernel)
theorem ex3 : c_parents [.lst [.tup [.str [97], .lst [.str [120], .str [121]], .str []], .tup [.str [98], .lst [.str [122], .str [121]], .str []]]] = .ok (.lst [.tup [.str [97], .str [121]], .tup [.str [98], .str [121]], .tup [.str [120], .str []], .tup [.str [121], .str [120]], .tup [.str [122], .str []]], true) := outB_eq (by decide +kernel)
theorem law_true : LawTrue c_law := by
  intro ns hl hb
  refine ⟨true, ?_⟩
  have hW : ∃ W : Int, ∀ E : Sto, slot E 0 = some (.rol (ns.map .int), .shr) → fOne gSum (fSl (fVar 0) oNone (oSome (fC (.int 63)))) E = .ok ⟨.int W, false, [], some []⟩ := by
    refine ⟨(ns.take 63).sum, fun E h => ?_⟩
    have l1 : ns.length ≤ 1000000 := by omega
    have l3 : (ns.map Dat.int).take (63 : Int).toNat = (ns.take 63).map Dat.int := by
      rw [List.map_take]
      rfl
    have l4 : (0 : Int) ≤ 63 := by decide
    simp only [pvs_K02, Nat.reduceSub, Nat.reduceAdd, Nat.reduceLT, Nat.reduceLeDiff, Nat.reduceEqDiff, decide_true, decide_false, Bool.not_true, Bool.not_false, reduceCtorEq, eq_self, if_true, if_false, h, l1, l3, l4, e_newL (flat_ints _), e_sum]
  obtain ⟨W, hW⟩ := hW
  have hinv := forGo_rel (T := .one 2) (g := b_law_3) (fun (i : Nat) => Dat.int i) (fun (b : Unit) _ => b) (fun _ E => ∃ x2 x3 x4 x5 x6 x7 x8 x9, E = E2 (.rol (ns.map .int)) W x2 x3 x4 x5 x6 x7 x8 x9 none none) (xs := List.range 4) (b := ())
    (E := E2 (.rol (ns.map .int)) W none none none none none none none none none none) ?st ⟨none, none, none, none, none, none, none, none, rfl⟩
  case st =>
    rintro _ a E ha ⟨x2, x3, x4, x5, x6, x7, x8, x9, rfl⟩
    obtain ⟨y3, y4, y5, y6, y7, y8, y9, h3⟩ := k02_3 hl hb (W := W) (by_ := a) (List.mem_range.mp ha) (x3 := x3) (x4 := x4) (x5 := x5) (x6 := x6) (x7 := x7) (x8 := x8) (x9 := x9) (x10 := none) (x11 := none)
    exact ⟨_, _, rfl, .inl h3, _, _, _, _, _, _, _, _, rfl⟩
  obtain ⟨E', h1, x2, x3, x4, x5, x6, x7, x8, x9, rfl⟩ := hinv
  have e4 : (4 : Int).toNat = 4 := rfl
  have rg := e_rg1 (rt := false) (s := []) (m := some []) (j := (4 : Int)) (by decide)
  rw [e4] at rg
  have hW0 := hW [some (.rol (ns.map .int), .shr), none, none, none, none, none, none, none, none, none, none, none] rfl
  have q1 : eqF (.lst [.tup [.str [98], .str []], .tup [.str [99], .str [98]]]) (.lst [.tup [.str [98], .str []], .tup [.str [99], .str [98]]]) = .ok true := rfl
  have q2 : eqF (.lst [.tup [.str [120], .str []], .tup [.str [121], .str [122]], .tup [.str [122], .str []]]) (.lst [.tup [.str [120], .str []], .tup [.str [121], .str [122]], .tup [.str [122], .str []]]) = .ok true := rfl
  have q3 : eqF (.lst [.tup [.str [97], .str [121]], .tup [.str [98], .str [121]], .tup [.str [120], .str []], .tup [.str [121], .str [120]], .tup [.str [122], .str []]]) (.lst [.tup [.str [97], .str [121]], .tup [.str [98], .str [121]], .tup [.str [120], .str []], .tup [.str [121], .str [120]], .tup [.str [122], .str []]]) = .ok true := rfl
  have n1 : rNewL [.tup [.str [120], .str []], .tup [.str [121], .str [122]], .tup [.str [122], .str []]] [] = ⟨.lst [.tup [.str [120], .str []], .tup [.str [121], .str [122]], .tup [.str [122], .str []]], true, [], some []⟩ := rfl
  have t3 : (3 : Int).toNat = 3 := rfl
  have z3 : (0 : Int) ≤ 3 := by decide
  unfold c_law g_law
  unfold E2 at h1
  simp only [pvs_K02, Nat.reduceSub, Nat.reduceAdd, Nat.reduceLT, Nat.reduceLeDiff, Nat.reduceEqDiff, decide_true, decide_false, Bool.not_true, Bool.not_false, reduceCtorEq, eq_self, if_true, if_false, ↓hW0, rg, h1, ex1, ex2, ex3, q1, q2, q3, n1, t3, z3, (by decide : (0 : Nat) ≤ 1000000), (by decide : (1 : Nat) ≤ 1000000), (by decide : (2 : Nat) ≤ 1000000), (by decide : (3 : Nat) ≤ 1000000), (by decide : (4 : Nat) ≤ 1000000), (by decide : (5 : Nat) ≤ 1000000), (by decide : (6 : Nat) ≤ 1000000), List.drop_succ_cons, List.drop_zero]
end PV

namespace PV
open PySem PySem.Spec L2
section
def top (i : Nat) : Stmt := PySem.Challenge.pw_replythread_k02_whole_parents.main.body.getD i (.Pass ⟨0, 0, 0, 0⟩)
structure Txt (K : PySem.W.Frag) (mg : Str → Option Value) : Prop where
  b_bk : PySem.W.nsIn K cStatics sharingNotToldKey = some none
  e_BadLetters : ExcK K mg "BadLetters"
  g_LONGEST_NAME : ∃ t, mg "LONGEST_NAME" = some (.int 3 t)
  g_LONGEST_TITLE : ∃ t, mg "LONGEST_TITLE" = some (.int 12 t)
  g_MOST : ∃ t, mg "MOST" = some (.int 9 t)
  g_MOST_ANSWERS : ∃ t, mg "MOST_ANSWERS" = some (.int 4 t)
  g_SIGNS : ∃ t, mg "SIGNS" = some (.str "abcdefghijklmnopqrstuvwxyz" t)
  n_all : mg "all" = none
  n_dict : mg "dict" = none
  n_isinstance : mg "isinstance" = none
  n_len : mg "len" = none
  n_list : mg "list" = none
  n_max : mg "max" = none
  n_min : mg "min" = none
  n_range : mg "range" = none
  n_set : mg "set" = none
  n_sorted : mg "sorted" = none
  n_str : mg "str" = none
  n_sum : mg "sum" = none
  n_tuple : mg "tuple" = none
  n_zip : mg "zip" = none
variable {P : Program} {w : World} {K : PySem.W.Frag} {mg : Str → Option Value} {base : Heap} {f : Addr} {fd : FuncData}
abbrev s_is_name : Stmt := top 9
theorem sc_is_name : FnScope ["thing", "sign"] ["thing"] (defScope s_is_name) := ⟨rfl, rfl, rfl, by decide +kernel, rfl, by decide +kernel, by decide +kernel⟩
theorem ok_is_name (T : Txt K mg) (F : Fun K "is_name" "is_name" s_is_name f fd) (g : mg "is_name" = some (.ref f)) (b : Binds K fd ["thing"] []) : DefP P w K mg base 1 "is_name" 1 c_is_name :=
  DefP.mk F (fn_pv (k := 0) F sc_is_name rfl (fun cdv A outer s H E C tk po =>
  ess_one (es_ret (ev_and (ev_isiB T.n_isinstance (ev_var 0) T.n_str boot_str ty_str) (ev_and (ev_leLe ev_int (ev_len T.n_len (ev_var 0)) (ev_kInt T.g_LONGEST_NAME)) (ev_one (ev_all C T.n_all (ev_comp C (own := [("sign", 1)]) (T := (.one 1)) (ft := tTrue) (fe := y_is_name_1) ⟨by decide, (ei_of (ev_var 0)).pi, blkOk_by (by rfl), fun s H C1 cl fp => tg_one (XOk.blk C) (i := 1), fun s H C1 cl fp => pts_true, fun s H C1 cl fp => (ev_in ((XOk.blk C)) (ev_var 1) (ev_kStr T.g_SIGNS)).pe⟩)))))))) g b
abbrev s_is_title : Stmt := top 10
theorem sc_is_title : FnScope ["thing", "sign"] ["thing"] (defScope s_is_title) := ⟨rfl, rfl, rfl, by decide +kernel, rfl, by decide +kernel, by decide +kernel⟩
theorem ok_is_title (T : Txt K mg) (F : Fun K "is_title" "is_title" s_is_title f fd) (g : mg "is_title" = some (.ref f)) (b : Binds K fd ["thing"] []) : DefP P w K mg base 1 "is_title" 1 c_is_title :=
  DefP.mk F (fn_pv (k := 0) F sc_is_title rfl (fun cdv A outer s H E C tk po =>
  ess_cons (es_if (Ew.et (ew_or (et_not (et_of (ev_isiB T.n_isinstance (ev_var 0) T.n_str boot_str ty_str))) (ew_or1 (et_gt (ev_len T.n_len (ev_var 0)) (ev_kInt T.g_LONGEST_TITLE))))) (ess_one (es_ret ev_bl)) ess_nil)
  (ess_one (es_ret (ev_all C T.n_all (ev_comp C (own := [("sign", 1)]) (T := (.one 1)) (ft := tTrue) (fe := y_is_title_1) ⟨by decide, (ei_of (ev_var 0)).pi, blkOk_by (by rfl), fun s H C1 cl fp => tg_one (XOk.blk C) (i := 1), fun s H C1 cl fp => pts_true, fun s H C1 cl fp => (ev_or (ev_in ((XOk.blk C)) (ev_var 1) (ev_kStr T.g_SIGNS)) (ev_one (ev_in ((XOk.blk C)) (ev_var 1) (ev_tup (ea_cons ev_str (ea_cons ev_str ea_nil)))))).pe⟩)))))) g b
abbrev s_is_letter : Stmt := top 11
theorem sc_is_letter : FnScope ["thing", "answers", "name"] ["thing"] (defScope s_is_letter) := ⟨rfl, rfl, rfl, by decide +kernel, rfl, by decide +kernel, by decide +kernel⟩
theorem ok_is_letter (T : Txt K mg) (D_is_name : DefP P w K mg base 1 "is_name" 1 c_is_name) (D_is_title : DefP P w K mg base 1 "is_title" 1 c_is_title) (F : Fun K "is_letter" "is_letter" s_is_letter f fd) (g : mg "is_letter" = some (.ref f)) (b : Binds K fd ["thing"] []) : DefP P w K mg base 2 "is_letter" 1 c_is_letter :=
  DefP.mk F (fn_pv (k := 1) F sc_is_letter rfl (fun cdv A outer s H E C tk po =>
  ess_cons (es_if (Ew.et (ew_or (et_not (et_of (ev_isiB T.n_isinstance (ev_var 0) T.n_tuple boot_tuple ty_tuple))) (ew_or (et_ne (ev_len T.n_len (ev_var 0)) ev_int C) (ew_or (et_not (et_of (ev_call C tk (DefP.at D_is_name) (ea_cons (ev_subs C (ev_var 0) ev_int) ea_nil)))) (ew_or1 (et_not (et_of (ev_call C tk (DefP.at D_is_title) (ea_cons (ev_subs C (ev_var 0) ev_int) ea_nil))))))))) (ess_one (es_ret ev_bl)) ess_nil)
  (ess_cons (es_set false (pasg C (i := 1) (ev_subs C (ev_var 0) ev_int)))
  (ess_cons (es_if (Ew.et (ew_or (et_not (et_of (ev_isiB T.n_isinstance (ev_var 1) T.n_list boot_list ty_list))) (ew_or (et_gt (ev_len T.n_len (ev_var 1)) (ev_kInt T.g_MOST_ANSWERS)) (ew_or1 (et_not (et_of (ev_all C T.n_all (ev_comp C (own := [("name", 2)]) (T := (.one 2)) (ft := tTrue) (fe := y_is_letter_1) ⟨by decide, (ei_of (ev_var 1)).pi, blkOk_by (by rfl), fun s H C1 cl fp => tg_one (XOk.blk C) (i := 2), fun s H C1 cl fp => pts_true, fun s H C1 cl fp => (ev_call (XOk.blk C) takes0 (DefP.at D_is_name) (ea_cons (ev_var 2) ea_nil)).pe⟩)))))))) (ess_one (es_ret ev_bl)) ess_nil)
  (ess_one (es_ret (ev_and (ev_eq C (ev_lenSet C T.n_len T.n_set (ev_var 1)) (ev_len T.n_len (ev_var 1))) (ev_one (ev_notIn C (ev_subs C (ev_var 0) ev_int) (ev_var 1)))))))))) g b
abbrev s_check_letters : Stmt := top 12
theorem sc_check_letters : FnScope ["letters", "letter"] ["letters"] (defScope s_check_letters) := ⟨rfl, rfl, rfl, by decide +kernel, rfl, by decide +kernel, by decide +kernel⟩
theorem ok_check_letters (T : Txt K mg) (D_is_letter : DefP P w K mg base 2 "is_letter" 1 c_is_letter) (F : Fun K "check_letters" "check_letters" s_check_letters f fd) (g : mg "check_letters" = some (.ref f)) (b : Binds K fd ["letters"] []) : DefP P w K mg base 3 "check_letters" 1 c_check_letters :=
  DefP.mk F (fn_pv (k := 2) F sc_check_letters rfl (fun cdv A outer s H E C tk po =>
  ess_cons (es_if (Ew.et (ew_or (et_not (et_of (ev_isiB T.n_isinstance (ev_var 0) T.n_list boot_list ty_list))) (ew_or (et_gt (ev_len T.n_len (ev_var 0)) (ev_kInt T.g_MOST)) (ew_or1 (et_not (et_of (ev_all C T.n_all (ev_comp C (own := [("letter", 1)]) (T := (.one 1)) (ft := tTrue) (fe := y_check_letters_1) ⟨by decide, (ei_of (ev_var 0)).pi, blkOk_by (by rfl), fun s H C1 cl fp => tg_one (XOk.blk C) (i := 1), fun s H C1 cl fp => pts_true, fun s H C1 cl fp => (ev_call (XOk.blk C) takes0 (DefP.at D_is_letter) (ea_cons (ev_var 1) ea_nil)).pe⟩)))))))) (ess_one (es_raiseK C tk T.e_BadLetters)) ess_nil)
  (ess_one (es_if (et_lt (ev_lenSet C T.n_len T.n_set (ev_comp C (own := [("letter", 1)]) (T := (.one 1)) (ft := tTrue) (fe := y_check_letters_2) ⟨by decide, (ei_of (ev_var 0)).pi, blkOk_by (by rfl), fun s H C1 cl fp => tg_one (XOk.blk C) (i := 1), fun s H C1 cl fp => pts_true, fun s H C1 cl fp => (ev_subs (XOk.blk C) (ev_var 1) ev_int).pe⟩)) (ev_len T.n_len (ev_var 0))) (ess_one (es_raiseK C tk T.e_BadLetters)) ess_nil)))) g b
abbrev s_names_of : Stmt := top 14
theorem sc_names_of : FnScope ["letters", "found", "name", "answers", "title"] ["letters"] (defScope s_names_of) := ⟨rfl, rfl, rfl, by decide +kernel, rfl, by decide +kernel, by decide +kernel⟩
theorem ok_names_of (T : Txt K mg) (F : Fun K "names_of" "names_of" s_names_of f fd) (g : mg "names_of" = some (.ref f)) (b : Binds K fd ["letters"] []) : DefP P w K mg base 1 "names_of" 1 c_names_of :=
  DefP.mk F (fn_pv (k := 0) F sc_names_of rfl (fun cdv A outer s H E C tk po =>
  ess_cons (es_set false (pasg C (i := 1) (ev_lst ea_nil)))
  (ess_cons (es_for po C (T := (.many [2, 3, 4])) (ei_of (ev_var 0)) (tg_many C (is := [2, 3, 4]) (tg_cons C (i := 2) (is := [3, 4]) (tg_cons C (i := 3) (is := [4]) (tg_cons C (i := 4) (is := []) tg_nil)))) (ess_one (es_extend (p_var 1) (ev_add (ev_lst (ea_cons (ev_var 2) ea_nil)) (ev_var 3)))))
  (ess_one (es_ret (ev_sortSet C T.n_sorted T.n_set (ev_var 1))))))) g b
abbrev s_told_parent : Stmt := top 15
theorem sc_told_parent : FnScope ["letters", "name", "counts", "other", "answers", "title", "ahead"] ["letters", "name"] (defScope s_told_parent) := ⟨rfl, rfl, rfl, by decide +kernel, rfl, by decide +kernel, by decide +kernel⟩
theorem ok_told_parent (T : Txt K mg) (F : Fun K "told_parent" "told_parent" s_told_parent f fd) (g : mg "told_parent" = some (.ref f)) (b : Binds K fd ["letters", "name"] []) : DefP P w K mg base 1 "told_parent" 2 c_told_parent :=
  DefP.mk F (fn_pv (k := 0) F sc_told_parent rfl (fun cdv A outer s H E C tk po =>
  ess_cons (es_set false (pasg C (i := 2) (ev_dic0)))
  (ess_cons (es_for po C (T := (.many [3, 4, 5])) (ei_of (ev_var 0)) (tg_many C (is := [3, 4, 5]) (tg_cons C (i := 3) (is := [4, 5]) (tg_cons C (i := 4) (is := [5]) (tg_cons C (i := 5) (is := []) tg_nil)))) (ess_one (es_if (et_in (ev_var 1) (ev_sl (ev_var 4) (eo_some ev_int) eo_none) C) (ess_cons (es_set false (pasg C (i := 6) (ev_subs C (ev_var 4) (ev_subI (ev_lidx (ev_var 4) (ev_var 1)) ev_int))))
  (ess_one (es_put C (p_var 2) (ev_var 6) (ev_add (ev_get2 C (ev_var 2) (ev_var 6) (ev_int) ⟨rfl, rfl, rfl, rfl⟩) ev_int)))) ess_nil)))
  (ess_one (es_ret (ev_if (et_ne0 C (ev_var 2) ev_dic0) (ev_subs C (ev_min C T.n_min (ev_compD C 2 (own := [("ahead", 6)]) (T := (.one 6)) (ft := tTrue) (fe := y_told_parent_1) ⟨by decide, blkOk_by (by rfl), fun s H C1 cl fp => tg_one (XOk.blk C) (i := 6), fun s H C1 cl fp => pts_true, fun s H C1 cl fp => (ev_tup (ea_cons (ev_neg (ev_subs (XOk.blk C) (ev_var 2) (ev_var 6))) (ea_cons (ev_var 6) ea_nil))).pe⟩)) ev_int) ev_str)))))) g b
abbrev s_wanted_of : Stmt := top 16
theorem sc_wanted_of : FnScope ["letters", "found", "name", "answers", "title"] ["letters"] (defScope s_wanted_of) := ⟨rfl, rfl, rfl, by decide +kernel, rfl, by decide +kernel, by decide +kernel⟩
theorem ok_wanted_of (T : Txt K mg) (D_names_of : DefP P w K mg base 1 "names_of" 1 c_names_of) (D_told_parent : DefP P w K mg base 1 "told_parent" 2 c_told_parent) (F : Fun K "wanted_of" "wanted_of" s_wanted_of f fd) (g : mg "wanted_of" = some (.ref f)) (b : Binds K fd ["letters"] []) : DefP P w K mg base 2 "wanted_of" 1 c_wanted_of :=
  DefP.mk F (fn_pv (k := 1) F sc_wanted_of rfl (fun cdv A outer s H E C tk po =>
  ess_cons (es_set false (pasg C (i := 1) (ev_dic0)))
  (ess_cons (es_for po C (T := (.many [2, 3, 4])) (ei_of (ev_var 0)) (tg_many C (is := [2, 3, 4]) (tg_cons C (i := 2) (is := [3, 4]) (tg_cons C (i := 3) (is := [4]) (tg_cons C (i := 4) (is := []) tg_nil)))) (ess_one (es_put C (p_var 1) (ev_var 2) (ev_if (et_ne (ev_var 3) (ev_lst ea_nil) C) (ev_subs C (ev_var 3) (ev_neg ev_int)) ev_str))))
  (ess_cons (es_for po C (T := (.one 2)) (ei_of (ev_call C tk (DefP.at D_names_of) (ea_cons (ev_var 0) ea_nil))) (tg_one C (i := 2)) (ess_one (es_if (et_notIn (ev_var 2) (ev_var 1) C) (ess_one (es_put C (p_var 1) (ev_var 2) (ev_call C tk (DefP.at D_told_parent) (ea_cons (ev_var 0) (ea_cons (ev_var 2) ea_nil))))) ess_nil)))
  (ess_one (es_ret (ev_var 1))))))) g b
abbrev s_ring_of : Stmt := top 17
theorem sc_ring_of : FnScope ["wanted", "name", "line"] ["wanted", "name"] (defScope s_ring_of) := ⟨rfl, rfl, rfl, by decide +kernel, rfl, by decide +kernel, by decide +kernel⟩
theorem ok_ring_of (T : Txt K mg) (F : Fun K "ring_of" "ring_of" s_ring_of f fd) (g : mg "ring_of" = some (.ref f)) (b : Binds K fd ["wanted", "name"] []) : DefP P w K mg base 1 "ring_of" 2 c_ring_of :=
  DefP.mk F (fn_pv (k := 0) F sc_ring_of rfl (fun cdv A outer s H E C tk po =>
  ess_cons (es_set false (pasg C (i := 2) (ev_lst ea_nil)))
  (ess_cons (es_while 1000 po (Ew.et (ew_and (et_ne (ev_var 1) ev_str C) (ew_and1 (et_notIn (ev_var 1) (ev_var 2) C)))) (ess_cons (es_append (p_var 2) (ev_var 1))
  (ess_one (es_set false (pasg C (i := 1) (ev_subs C (ev_var 0) (ev_var 1)))))))
  (ess_one (es_ret (ev_if (et_ne (ev_var 1) ev_str C) (ev_sl (ev_var 2) (eo_some (ev_lidx (ev_var 2) (ev_var 1))) eo_none) (ev_lst ea_nil))))))) g b
abbrev s_parents_of : Stmt := top 18
theorem sc_parents_of : FnScope ["letters", "found", "name", "ring"] ["letters"] (defScope s_parents_of) := ⟨rfl, rfl, rfl, by decide +kernel, rfl, by decide +kernel, by decide +kernel⟩
theorem ok_parents_of (T : Txt K mg) (D_wanted_of : DefP P w K mg base 2 "wanted_of" 1 c_wanted_of) (D_names_of : DefP P w K mg base 1 "names_of" 1 c_names_of) (D_ring_of : DefP P w K mg base 1 "ring_of" 2 c_ring_of) (F : Fun K "parents_of" "parents_of" s_parents_of f fd) (g : mg "parents_of" = some (.ref f)) (b : Binds K fd ["letters"] []) : DefP P w K mg base 3 "parents_of" 1 c_parents_of :=
  DefP.mk F (fn_pv (k := 2) F sc_parents_of rfl (fun cdv A outer s H E C tk po =>
  ess_cons (es_set false (pasg C (i := 1) (ev_call C tk (DefP.at D_wanted_of) (ea_cons (ev_var 0) ea_nil))))
  (ess_cons (es_for po C (T := (.one 2)) (ei_of (ev_call C tk (DefP.at D_names_of) (ea_cons (ev_var 0) ea_nil))) (tg_one C (i := 2)) (ess_cons (es_set false (pasg C (i := 3) (ev_call C tk (DefP.at D_ring_of) (ea_cons (ev_var 1) (ea_cons (ev_var 2) ea_nil)))))
  (ess_one (es_if (et_ne (ev_var 3) (ev_lst ea_nil) C) (ess_one (es_put C (p_var 1) (ev_min C T.n_min (ev_var 3)) (ev_str))) ess_nil))))
  (ess_one (es_ret (ev_var 1)))))) g b
abbrev s_parents : Stmt := top 19
theorem sc_parents : FnScope ["letters", "found", "name"] ["letters"] (defScope s_parents) := ⟨rfl, rfl, rfl, by decide +kernel, rfl, by decide +kernel, by decide +kernel⟩
theorem ok_parents (T : Txt K mg) (D_check_letters : DefP P w K mg base 3 "check_letters" 1 c_check_letters) (D_parents_of : DefP P w K mg base 3 "parents_of" 1 c_parents_of) (F : Fun K "parents" "parents" s_parents f fd) (g : mg "parents" = some (.ref f)) (b : Binds K fd ["letters"] []) : DefP P w K mg base 4 "parents" 1 c_parents :=
  DefP.mk F (fn_pv (k := 3) F sc_parents rfl (fun cdv A outer s H E C tk po =>
  ess_cons (es_drop (ev_call C tk (DefP.at D_check_letters) (ea_cons (ev_var 0) ea_nil)))
  (ess_cons (es_set false (pasg C (i := 1) (ev_call C tk (DefP.at D_parents_of) (ea_cons (ev_var 0) ea_nil))))
  (ess_one (es_ret (ev_comp C (own := [("name", 2)]) (T := (.one 2)) (ft := tTrue) (fe := y_parents_1) ⟨by decide, (ei_of (ev_sorted C T.n_sorted (ev_list C T.n_list (ev_var 1)))).pi, blkOk_by (by rfl), fun s H C1 cl fp => tg_one (XOk.blk C) (i := 2), fun s H C1 cl fp => pts_true, fun s H C1 cl fp => (ev_tup (ea_cons (ev_var 2) (ea_cons (ev_subs (XOk.blk C) (ev_var 1) (ev_var 2)) ea_nil))).pe⟩)))))) g b
abbrev s__law_number : Stmt := top 21
theorem sc__law_number : FnScope ["_law_cell", "_law_at", "_law_whole", "_law_mixed", "_law_more"] ["_law_cell", "_law_at", "_law_whole"] (defScope s__law_number) := ⟨rfl, rfl, rfl, by decide +kernel, rfl, by decide +kernel, by decide +kernel⟩
theorem ok__law_number (T : Txt K mg) (F : Fun K "_law_number" "_law_number" s__law_number f fd) (g : mg "_law_number" = some (.ref f)) (b : Binds K fd ["_law_cell", "_law_at", "_law_whole"] []) : DefP P w K mg base 1 "_law_number" 3 c__law_number :=
  DefP.mk F (fn_pv (k := 0) F sc__law_number rfl (fun cdv A outer s H E C tk po =>
  ess_cons (es_if (et_ge (ev_var 0) (ev_pow ev_int ev_int)) (ess_one (es_ret (ev_var 0))) ess_nil)
  (ess_cons (es_set false (pasg C (i := 3) (ev_mod (ev_add (ev_mul (ev_add (ev_var 0) (ev_mul ev_int (ev_var 1))) ev_int) (ev_var 2)) ev_int)))
  (ess_cons (es_set false (pasg C (i := 4) (ev_mul (ev_mul (ev_var 3) (ev_add (ev_add (ev_var 3) (ev_mul ev_int (ev_var 1))) ev_int)) (ev_add (ev_add (ev_var 3) (ev_var 0)) ev_int))))
  (ess_one (es_ret (ev_fdv (ev_mul (ev_var 4) (ev_add (ev_var 4) ev_int)) ev_int))))))) g b
abbrev s__law_letters : Stmt := top 22
theorem sc__law_letters : FnScope ["_law_script", "_law_by", "_law_most", "_law_cells", "_law_whole", "_law_found", "_law_many", "_law_kind", "_law_signs", "_law_turned", "_law_names", "_law_name", "_law_at", "_law_number_here", "_law_answers", "_law_turn", "_law_wide", "_law_other", "_law_title", "_law_sign"] ["_law_script", "_law_by", "_law_most"] (defScope s__law_letters) := ⟨rfl, rfl, rfl, by decide +kernel, rfl, by decide +kernel, by decide +kernel⟩
theorem ok__law_letters (T : Txt K mg) (D__law_number : DefP P w K mg base 1 "_law_number" 3 c__law_number) (F : Fun K "_law_letters" "_law_letters" s__law_letters f fd) (g : mg "_law_letters" = some (.ref f)) (b : Binds K fd ["_law_script", "_law_by", "_law_most"] []) : DefP P w K mg base 2 "_law_letters" 3 c__law_letters :=
  DefP.mk F (fn_pv (k := 1) F sc__law_letters rfl (fun cdv A outer s H E C tk po =>
  ess_cons (es_set false (pasg C (i := 3) (ev_if (et_ne (ev_var 0) (ev_lst ea_nil) C) (ev_sl (ev_var 0) eo_none (eo_some ev_int)) (ev_lst (ea_cons ev_int ea_nil)))))
  (ess_cons (es_par2 C (i := 4) (j := 5) (ea_cons (ev_add (ev_sum C T.n_sum (ev_var 3)) (ev_var 1)) (ea_cons (ev_lst ea_nil) ea_nil)) (by decide) (by rfl) (by rfl) (by rfl))
  (ess_cons (es_par2 C (i := 6) (j := 7) (ea_cons (ev_mod (ev_fdv (ev_call C tk (DefP.at D__law_number) (ea_cons (ev_var 4) (ea_cons (ev_add (ev_var 1) ev_int) (ea_cons ev_int ea_nil)))) ev_int) (ev_add (ev_var 2) ev_int)) (ea_cons (ev_mod (ev_fdv (ev_call C tk (DefP.at D__law_number) (ea_cons (ev_var 4) (ea_cons (ev_add (ev_var 1) ev_int) (ea_cons ev_int ea_nil)))) ev_int) ev_int) ea_nil)) (by decide) (by rfl) (by rfl) (by rfl))
  (ess_cons (es_unp C (is := [8, 9, 10]) (ev_tup (ea_cons ev_str (ea_cons (ev_mod (ev_fdv (ev_call C tk (DefP.at D__law_number) (ea_cons (ev_var 4) (ea_cons (ev_add (ev_var 1) ev_int) (ea_cons ev_int ea_nil)))) ev_int) ev_int) (ea_cons (ev_lst ea_nil) ea_nil)))) (tg_cons C (i := 8) (is := [9, 10]) (tg_cons C (i := 9) (is := [10]) (tg_cons C (i := 10) (is := []) tg_nil))))
  (ess_cons (es_for po C (T := (.one 11)) (ei_of (ev_tup (ea_cons ev_str (ea_cons ev_str (ea_cons ev_str (ea_cons ev_str (ea_cons ev_str (ea_cons ev_str (ea_cons ev_str (ea_cons ev_str (ea_cons ev_str (ea_cons ev_str (ea_cons ev_str (ea_cons ev_str ea_nil)))))))))))))) (tg_one C (i := 11)) (ess_one (es_append (p_var 10) (ev_join ev_str (ev_comp C (own := [("_law_sign", 19)]) (T := (.one 19)) (ft := tTrue) (fe := y__law_letters_1) ⟨by decide, (ei_of (ev_var 11)).pi, blkOk_by (by rfl), fun s H C1 cl fp => tg_one (XOk.blk C) (i := 19), fun s H C1 cl fp => pts_true, fun s H C1 cl fp => (ev_subs (XOk.blk C) (ev_var 8) (ev_mod (ev_add (ev_sidx (ev_var 8) (ev_var 19)) (ev_var 9)) ev_int)).pe⟩)))))
  (ess_cons (es_for po C (T := (.one 12)) (ei_range1 T.n_range (ev_var 6)) (tg_one C (i := 12)) (ess_cons (es_set false (pasg C (i := 13) (ev_fdv (ev_call C tk (DefP.at D__law_number) (ea_cons (ev_subs C (ev_var 3) (ev_mod (ev_add (ev_var 12) (ev_var 1)) (ev_len T.n_len (ev_var 3)))) (ea_cons (ev_add (ev_var 12) (ev_var 1)) (ea_cons (ev_var 4) ea_nil)))) ev_int)))
  (ess_cons (es_set false (pasg C (i := 14) (ev_lst ea_nil)))
  (ess_cons (es_for po C (T := (.one 15)) (ei_range1 T.n_range (ev_mod (ev_var 13) (ev_subs C (ev_tup (ea_cons ev_int (ea_cons ev_int (ea_cons ev_int (ea_cons ev_int ea_nil))))) (ev_var 7)))) (tg_one C (i := 15)) (ess_cons (es_set false (pasg C (i := 16) (ev_add (ev_subs C (ev_tup (ea_cons (ev_add (ev_var 6) ev_int) (ea_cons (ev_add (ev_var 6) ev_int) (ea_cons (ev_max2 C T.n_max (ev_int) (ev_var 12)) (ea_cons ev_int ea_nil))))) (ev_var 7)) ev_int)))
  (ess_cons (es_set false (pasg C (i := 17) (ev_subs C (ev_var 10) (ev_mod (ev_add (ev_fdv (ev_var 13) ev_int) (ev_mul (ev_var 15) (ev_add ev_int (ev_mod (ev_fdv (ev_var 13) ev_int) ev_int)))) (ev_var 16)))))
  (ess_one (es_if (Ew.et (ew_and (et_ne (ev_var 17) (ev_subs C (ev_var 10) (ev_var 12)) C) (ew_and (et_notIn (ev_var 17) (ev_var 14) C) (ew_and1 (et_lt (ev_len T.n_len (ev_var 14)) ev_int))))) (ess_one (es_append (p_var 14) (ev_var 17))) ess_nil)))))
  (ess_cons (es_if (Ew.et (ew_and (et_eq (ev_var 7) ev_int C) (ew_and (et_eq (ev_var 12) ev_int C) (ew_and1 (et_gt (ev_var 6) ev_int))))) (ess_one (es_set false (pasg C (i := 14) (ev_lst (ea_cons (ev_subs C (ev_var 10) (ev_subI (ev_var 6) ev_int)) ea_nil))))) ess_nil)
  (ess_repl C false (i := 18) (j := 8) T.b_bk (ev_mul (ev_mod (ev_fdv (ev_var 13) ev_int) ev_int) (ev_var 9)) (ev_mod (ev_fdv (ev_var 13) ev_int) ev_int) (ea_cons ev_str (ea_cons ev_str (ea_cons ev_str (ea_cons ev_str (ea_cons ev_str (ea_cons ev_str (ea_cons ev_str ea_nil))))))) (ess_one (es_append (p_var 5) (ev_tup (ea_cons (ev_subs C (ev_var 10) (ev_var 12)) (ea_cons (ev_var 14) (ea_cons (ev_if (et_gt (ev_mod (ev_var 4) ev_int) ev_int) (ev_var 18) ev_str) ea_nil))))))))))))
  (ess_one (es_ret (ev_var 5)))))))))) g b
abbrev s__law_copied : Stmt := top 23
theorem sc__law_copied : FnScope ["_law_letters_here", "_law_name", "_law_answers", "_law_title"] ["_law_letters_here"] (defScope s__law_copied) := ⟨rfl, rfl, rfl, by decide +kernel, rfl, by decide +kernel, by decide +kernel⟩
theorem ok__law_copied (T : Txt K mg) (F : Fun K "_law_copied" "_law_copied" s__law_copied f fd) (g : mg "_law_copied" = some (.ref f)) (b : Binds K fd ["_law_letters_here"] []) : DefP P w K mg base 1 "_law_copied" 1 c__law_copied :=
  DefP.mk F (fn_pv (k := 0) F sc__law_copied rfl (fun cdv A outer s H E C tk po =>
  ess_one (es_ret (ev_comp C (own := [("_law_name", 1), ("_law_answers", 2), ("_law_title", 3)]) (T := (.many [1, 2, 3])) (ft := tTrue) (fe := y__law_copied_1) ⟨by decide, (ei_of (ev_var 0)).pi, blkOk_by (by rfl), fun s H C1 cl fp => tg_many (XOk.blk C) (is := [1, 2, 3]) (tg_cons (XOk.blk C) (i := 1) (is := [2, 3]) (tg_cons (XOk.blk C) (i := 2) (is := [3]) (tg_cons (XOk.blk C) (i := 3) (is := []) tg_nil))), fun s H C1 cl fp => pts_true, fun s H C1 cl fp => (ev_tup (ea_cons (ev_var 1) (ea_cons (ev_list (XOk.blk C) T.n_list (ev_var 2)) (ea_cons (ev_var 3) ea_nil)))).pe⟩)))) g b
abbrev s__law_wanted : Stmt := top 24
theorem sc__law_wanted : FnScope ["_law_letters_here", "_law_found", "_law_told", "_law_name", "_law_answers", "_law_title", "_law_ahead", "_law_behind", "_law_other", "_law_most"] ["_law_letters_here"] (defScope s__law_wanted) := ⟨rfl, rfl, rfl, by decide +kernel, rfl, by decide +kernel, by decide +kernel⟩
theorem ok__law_wanted (T : Txt K mg) (F : Fun K "_law_wanted" "_law_wanted" s__law_wanted f fd) (g : mg "_law_wanted" = some (.ref f)) (b : Binds K fd ["_law_letters_here"] []) : DefP P w K mg base 1 "_law_wanted" 1 c__law_wanted :=
  DefP.mk F (fn_pv (k := 0) F sc__law_wanted rfl (fun cdv A outer s H E C tk po =>
  ess_cons (es_unp C (is := [1, 2]) (ev_tup (ea_cons ev_dic0 (ea_cons ev_dic0 ea_nil))) (tg_cons C (i := 1) (is := [2]) (tg_cons C (i := 2) (is := []) tg_nil)))
  (ess_cons (es_for po C (T := (.many [3, 4, 5])) (ei_of (ev_var 0)) (tg_many C (is := [3, 4, 5]) (tg_cons C (i := 3) (is := [4, 5]) (tg_cons C (i := 4) (is := [5]) (tg_cons C (i := 5) (is := []) tg_nil)))) (ess_cons (es_for po C (T := (.many [6, 7])) (ei_zip T.n_zip (ev_var 4) (ev_sl (ev_var 4) (eo_some ev_int) eo_none)) (tg_many C (is := [6, 7]) (tg_cons C (i := 6) (is := [7]) (tg_cons C (i := 7) (is := []) tg_nil))) (ess_one (es_put C (p_var 2) (ev_var 7) (ev_add (ev_get2 C (ev_var 2) (ev_var 7) (ev_lst ea_nil) ⟨rfl, rfl, rfl, rfl⟩) (ev_lst (ea_cons (ev_var 6) ea_nil))))))
  (ess_one (es_for po C (T := (.one 8)) (ei_of (ev_var 4)) (tg_one C (i := 8)) (ess_one (es_setd C (p_var 1) (ev_var 8) (ev_str) ⟨rfl, rfl, rfl, rfl⟩))))))
  (ess_cons (es_forD po C 2 (T := (.one 3)) (tg_one C (i := 3)) (ess_cons (es_set false (pasg C (i := 9) (ev_max C T.n_max (ev_comp C (own := [("_law_ahead", 6)]) (T := (.one 6)) (ft := tTrue) (fe := y__law_wanted_1) ⟨by decide, (ei_of (ev_subs C (ev_var 2) (ev_var 3))).pi, blkOk_by (by rfl), fun s H C1 cl fp => tg_one (XOk.blk C) (i := 6), fun s H C1 cl fp => pts_true, fun s H C1 cl fp => (ev_lcnt (XOk.blk C) (ev_subs (XOk.blk C) (ev_var 2) (ev_var 3)) (ev_var 6)).pe⟩))))
  (ess_one (es_put C (p_var 1) (ev_var 3) (ev_subs C (ev_sorted C T.n_sorted (ev_comp C (own := [("_law_ahead", 6)]) (T := (.one 6)) (ft := q__law_wanted_1) (fe := y__law_wanted_2) ⟨by decide, (ei_of (ev_subs C (ev_var 2) (ev_var 3))).pi, blkOk_by (by rfl), fun s H C1 cl fp => tg_one (XOk.blk C) (i := 6), fun s H C1 cl fp => pts_of (et_eq (ev_lcnt (XOk.blk C) (ev_subs (XOk.blk C) (ev_var 2) (ev_var 3)) (ev_var 6)) (ev_var 9) ((XOk.blk C))), fun s H C1 cl fp => (ev_var 6).pe⟩)) ev_int)))))
  (ess_cons (es_for po C (T := (.many [3, 4, 5])) (ei_of (ev_var 0)) (tg_many C (is := [3, 4, 5]) (tg_cons C (i := 3) (is := [4, 5]) (tg_cons C (i := 4) (is := [5]) (tg_cons C (i := 5) (is := []) tg_nil)))) (ess_one (es_put C (p_var 1) (ev_var 3) (ev_if (et_ne (ev_var 4) (ev_lst ea_nil) C) (ev_subs C (ev_var 4) (ev_neg ev_int)) ev_str))))
  (ess_one (es_ret (ev_var 1)))))))) g b
abbrev s__law_parents : Stmt := top 25
theorem sc__law_parents : FnScope ["_law_letters_here", "_law_wanted_here", "_law_found", "_law_name", "_law_ring", "_law_here"] ["_law_letters_here"] (defScope s__law_parents) := ⟨rfl, rfl, rfl, by decide +kernel, rfl, by decide +kernel, by decide +kernel⟩
theorem ok__law_parents (T : Txt K mg) (D__law_wanted : DefP P w K mg base 1 "_law_wanted" 1 c__law_wanted) (F : Fun K "_law_parents" "_law_parents" s__law_parents f fd) (g : mg "_law_parents" = some (.ref f)) (b : Binds K fd ["_law_letters_here"] []) : DefP P w K mg base 2 "_law_parents" 1 c__law_parents :=
  DefP.mk F (fn_pv (k := 1) F sc__law_parents rfl (fun cdv A outer s H E C tk po =>
  ess_cons (es_set false (pasg C (i := 1) (ev_call C tk (DefP.at D__law_wanted) (ea_cons (ev_var 0) ea_nil))))
  (ess_cons (es_set false (pasg C (i := 2) (ev_dict C T.n_dict (ev_var 1))))
  (ess_cons (es_forD po C 1 (T := (.one 3)) (tg_one C (i := 3)) (ess_cons (es_par2 C (i := 4) (j := 5) (ea_cons (ev_lst (ea_cons (ev_var 3) ea_nil)) (ea_cons (ev_subs C (ev_var 1) (ev_var 3)) ea_nil)) (by decide) (by rfl) (by rfl) (by rfl))
  (ess_cons (es_while 1000 po (Ew.et (ew_and (et_ne (ev_var 5) ev_str C) (ew_and (et_ne (ev_var 5) (ev_var 3) C) (ew_and1 (et_le (ev_len T.n_len (ev_var 4)) (ev_len T.n_len (ev_var 1))))))) (ess_cons (es_append (p_var 4) (ev_var 5))
  (ess_one (es_set false (pasg C (i := 5) (ev_subs C (ev_var 1) (ev_var 5)))))))
  (ess_one (es_if (Ew.et (ew_and (et_eq (ev_var 5) (ev_var 3) C) (ew_and1 (et_eq (ev_var 3) (ev_min C T.n_min (ev_var 4)) C)))) (ess_one (es_put C (p_var 2) (ev_var 3) (ev_str))) ess_nil)))))
  (ess_one (es_ret (ev_var 2))))))) g b
abbrev s_law : Stmt := top 26
theorem sc_law : FnScope ["_law_script", "_law_whole", "_law_by", "_law_letters_here", "_law_handed", "_law_due", "_law_again", "_law_found", "_law_turn", "_law_other", "_law_pair", "_law_name"] ["_law_script"] (defScope s_law) := ⟨rfl, rfl, rfl, by decide +kernel, rfl, by decide +kernel, by decide +kernel⟩
theorem ok_law0 (T : Txt K mg) (D__law_letters : DefP P w K mg base 2 "_law_letters" 3 c__law_letters) (D__law_parents : DefP P w K mg base 2 "_law_parents" 1 c__law_parents) (D__law_copied : DefP P w K mg base 1 "_law_copied" 1 c__law_copied) (D_parents : DefP P w K mg base 4 "parents" 1 c_parents) (F : Fun K "law" "law" s_law f fd) : FnOk P w K mg base (L2.CX P w) 5 f fd ["_law_script"] (spC ⟨K, mg⟩ 1 c_law) :=
  fn_pv (k := 4) F sc_law rfl (fun cdv A outer s H E C tk po =>
  ess_cons (es_set false (pasg C (i := 1) (ev_sum C T.n_sum (ev_sl (ev_var 0) eo_none (eo_some ev_int)))))
  (ess_cons (es_for po C (T := (.one 2)) (ei_range1 T.n_range (ev_int)) (tg_one C (i := 2)) (ess_cons (es_set false (pasg C (i := 3) (ev_call C tk (DefP.at D__law_letters) (ea_cons (ev_var 0) (ea_cons (ev_var 2) (ea_cons ev_int ea_nil))))))
  (ess_cons (es_unp C (is := [4, 5]) (ev_tup (ea_cons (ev_call C tk (DefP.at D__law_copied) (ea_cons (ev_var 3) ea_nil)) (ea_cons (ev_call C tk (DefP.at D__law_parents) (ea_cons (ev_var 3) ea_nil)) ea_nil))) (tg_cons C (i := 4) (is := [5]) (tg_cons C (i := 5) (is := []) tg_nil)))
  (ess_cons (es_for po C (T := (.one 6)) (ei_range1 T.n_range (ev_int)) (tg_one C (i := 6)) (ess_cons (es_set false (pasg C (i := 7) (ev_call C tk (DefP.at D_parents) (ea_cons (ev_var 4) ea_nil))))
  (ess_cons (es_if (Ew.et (ew_or (et_not (et_of (ev_isiB T.n_isinstance (ev_var 7) T.n_list boot_list ty_list))) (ew_or (et_ne (ev_var 7) (ev_sorted C T.n_sorted (ev_compD C 5 (own := [("_law_name", 11)]) (T := (.one 11)) (ft := tTrue) (fe := y_law_1) ⟨by decide, blkOk_by (by rfl), fun s H C1 cl fp => tg_one (XOk.blk C) (i := 11), fun s H C1 cl fp => pts_true, fun s H C1 cl fp => (ev_tup (ea_cons (ev_var 11) (ea_cons (ev_subs (XOk.blk C) (ev_var 5) (ev_var 11)) ea_nil))).pe⟩)) C) (ew_or1 (et_ne (ev_var 4) (ev_var 3) C))))) (ess_one (es_ret ev_bl)) ess_nil)
  (ess_cons (es_if (et_not (et_of (ev_all C T.n_all (ev_comp C (own := [("_law_pair", 10)]) (T := (.one 10)) (ft := tTrue) (fe := y_law_2) ⟨by decide, (ei_of (ev_var 7)).pi, blkOk_by (by rfl), fun s H C1 cl fp => tg_one (XOk.blk C) (i := 10), fun s H C1 cl fp => pts_true, fun s H C1 cl fp => (ev_isiB T.n_isinstance (ev_var 10) T.n_tuple boot_tuple ty_tuple).pe⟩)))) (ess_one (es_ret ev_bl)) ess_nil)
  (ess_one (es_append (p_var 7) (ev_tup (ea_cons ev_str (ea_cons ev_str ea_nil)))))))))
  (ess_one (es_if (et_ne (ev_var 3) (ev_lst ea_nil) C) (ess_cons (es_set false (pasg C (i := 8) (ev_mod (ev_var 1) (ev_len T.n_len (ev_var 3)))))
  (ess_one (es_for po C (T := (.one 9)) (ei_of (ev_lst (ea_cons (ev_rev (ev_var 3)) (ea_cons (ev_add (ev_sl (ev_var 3) (eo_some (ev_var 8)) eo_none) (ev_sl (ev_var 3) eo_none (eo_some (ev_var 8)))) (ea_cons (ev_sorted C T.n_sorted (ev_var 3)) ea_nil))))) (tg_one C (i := 9)) (ess_one (es_if (et_ne (ev_call C tk (DefP.at D_parents) (ea_cons (ev_var 9) ea_nil)) (ev_sorted C T.n_sorted (ev_compD C 5 (own := [("_law_name", 11)]) (T := (.one 11)) (ft := tTrue) (fe := y_law_3) ⟨by decide, blkOk_by (by rfl), fun s H C1 cl fp => tg_one (XOk.blk C) (i := 11), fun s H C1 cl fp => pts_true, fun s H C1 cl fp => (ev_tup (ea_cons (ev_var 11) (ea_cons (ev_subs (XOk.blk C) (ev_var 5) (ev_var 11)) ea_nil))).pe⟩)) C) (ess_one (es_ret ev_bl)) ess_nil))))) ess_nil))))))
  (ess_cons (es_if (et_ne (ev_call C tk (DefP.at D_parents) (ea_cons (ev_lst (ea_cons (ev_tup (ea_cons ev_str (ea_cons (ev_lst (ea_cons ev_str ea_nil)) (ea_cons ev_str ea_nil)))) (ea_cons (ev_tup (ea_cons ev_str (ea_cons (ev_lst (ea_cons ev_str ea_nil)) (ea_cons ev_str ea_nil)))) ea_nil))) ea_nil)) (ev_lst (ea_cons (ev_tup (ea_cons ev_str (ea_cons ev_str ea_nil))) (ea_cons (ev_tup (ea_cons ev_str (ea_cons ev_str ea_nil))) ea_nil))) C) (ess_one (es_ret ev_bl)) ess_nil)
  (ess_cons (es_set false (pasg C (i := 3) (ev_lst (ea_cons (ev_tup (ea_cons ev_str (ea_cons (ev_lst (ea_cons ev_str (ea_cons ev_str ea_nil))) (ea_cons ev_str ea_nil)))) (ea_cons (ev_tup (ea_cons ev_str (ea_cons (ev_lst (ea_cons ev_str (ea_cons ev_str ea_nil))) (ea_cons ev_str ea_nil)))) (ea_cons (ev_tup (ea_cons ev_str (ea_cons (ev_lst (ea_cons ev_str (ea_cons ev_str ea_nil))) (ea_cons ev_str ea_nil)))) ea_nil))))))
  (ess_cons (es_if (et_ne (ev_sl (ev_call C tk (DefP.at D_parents) (ea_cons (ev_var 3) ea_nil)) (eo_some ev_int) eo_none) (ev_lst (ea_cons (ev_tup (ea_cons ev_str (ea_cons ev_str ea_nil))) (ea_cons (ev_tup (ea_cons ev_str (ea_cons ev_str ea_nil))) (ea_cons (ev_tup (ea_cons ev_str (ea_cons ev_str ea_nil))) ea_nil)))) C) (ess_one (es_ret ev_bl)) ess_nil)
  (ess_cons (es_set false (pasg C (i := 7) (ev_call C tk (DefP.at D_parents) (ea_cons (ev_lst (ea_cons (ev_tup (ea_cons ev_str (ea_cons (ev_lst (ea_cons ev_str (ea_cons ev_str ea_nil))) (ea_cons ev_str ea_nil)))) (ea_cons (ev_tup (ea_cons ev_str (ea_cons (ev_lst (ea_cons ev_str (ea_cons ev_str ea_nil))) (ea_cons ev_str ea_nil)))) ea_nil))) ea_nil))))
  (ess_one (es_ret (ev_eq C (ev_var 7) (ev_lst (ea_cons (ev_tup (ea_cons ev_str (ea_cons ev_str ea_nil))) (ea_cons (ev_tup (ea_cons ev_str (ea_cons ev_str ea_nil))) (ea_cons (ev_tup (ea_cons ev_str (ea_cons ev_str ea_nil))) (ea_cons (ev_tup (ea_cons ev_str (ea_cons ev_str ea_nil))) (ea_cons (ev_tup (ea_cons ev_str (ea_cons ev_str ea_nil))) ea_nil)))))))))))))))
end
end PV

namespace PV
open PySem PySem.Spec L2
theorem txt_mk {K : PySem.W.Frag} {h : Heap} {mg : Str → Option Value} {C_BadLetters : Addr} (X : K.In h) (G : h.Ns mainGlobals mg) {t_LONGEST_NAME} {t_LONGEST_TITLE} {t_MOST} {t_MOST_ANSWERS} {t_SIGNS}
    (z_bk : PySem.W.nsIn K cStatics sharingNotToldKey = some none)
    (a_BadLetters : PySem.W.nsIn K mainGlobals "BadLetters" = some (some (.ref C_BadLetters))) (x_BadLetters : PySem.W.excIn K C_BadLetters bmV "ValueError.__new__" = true) (k_BadLetters : PySem.W.keepIn K (.ref C_BadLetters) = true) (b_BadLetters : PySem.W.subIn K (.ref C_BadLetters) (.type "BaseException") = some true) (t_BadLetters : PySem.W.typeIn K (.ref C_BadLetters) = some (.type "type"))
    (a_LONGEST_NAME : PySem.W.nsIn K mainGlobals "LONGEST_NAME" = some (some (.int 3 t_LONGEST_NAME)))
    (a_LONGEST_TITLE : PySem.W.nsIn K mainGlobals "LONGEST_TITLE" = some (some (.int 12 t_LONGEST_TITLE)))
    (a_MOST : PySem.W.nsIn K mainGlobals "MOST" = some (some (.int 9 t_MOST)))
    (a_MOST_ANSWERS : PySem.W.nsIn K mainGlobals "MOST_ANSWERS" = some (some (.int 4 t_MOST_ANSWERS)))
    (a_SIGNS : PySem.W.nsIn K mainGlobals "SIGNS" = some (some (.str "abcdefghijklmnopqrstuvwxyz" t_SIGNS)))
    (z_all : PySem.W.nsIn K mainGlobals "all" = some none)
    (z_dict : PySem.W.nsIn K mainGlobals "dict" = some none)
    (z_isinstance : PySem.W.nsIn K mainGlobals "isinstance" = some none)
    (z_len : PySem.W.nsIn K mainGlobals "len" = some none)
    (z_list : PySem.W.nsIn K mainGlobals "list" = some none)
    (z_max : PySem.W.nsIn K mainGlobals "max" = some none)
    (z_min : PySem.W.nsIn K mainGlobals "min" = some none)
    (z_range : PySem.W.nsIn K mainGlobals "range" = some none)
    (z_set : PySem.W.nsIn K mainGlobals "set" = some none)
    (z_sorted : PySem.W.nsIn K mainGlobals "sorted" = some none)
    (z_str : PySem.W.nsIn K mainGlobals "str" = some none)
    (z_sum : PySem.W.nsIn K mainGlobals "sum" = some none)
    (z_tuple : PySem.W.nsIn K mainGlobals "tuple" = some none)
    (z_zip : PySem.W.nsIn K mainGlobals "zip" = some none) : Txt K mg :=
  ⟨z_bk, ⟨_, PySem.W.mg_of X G a_BadLetters, x_BadLetters, k_BadLetters, b_BadLetters, t_BadLetters⟩, ⟨_, PySem.W.mg_of X G a_LONGEST_NAME⟩, ⟨_, PySem.W.mg_of X G a_LONGEST_TITLE⟩, ⟨_, PySem.W.mg_of X G a_MOST⟩, ⟨_, PySem.W.mg_of X G a_MOST_ANSWERS⟩, ⟨_, PySem.W.mg_of X G a_SIGNS⟩, PySem.W.mg_none_of X G z_all, PySem.W.mg_none_of X G z_dict, PySem.W.mg_none_of X G z_isinstance, PySem.W.mg_none_of X G z_len, PySem.W.mg_none_of X G z_list, PySem.W.mg_none_of X G z_max, PySem.W.mg_none_of X G z_min, PySem.W.mg_none_of X G z_range, PySem.W.mg_none_of X G z_set, PySem.W.mg_none_of X G z_sorted, PySem.W.mg_none_of X G z_str, PySem.W.mg_none_of X G z_sum, PySem.W.mg_none_of X G z_tuple, PySem.W.mg_none_of X G z_zip⟩
theorem all_mk {l : PySem.W.OpenLaw} {w : World} {K : PySem.W.Frag} {h : Heap} {mg : Str → Option Value} {fa : Addr} (X : K.In h) (G : h.Ns mainGlobals mg) (hfa : mg "law" = some (.ref fa)) (T : Txt K mg)
    {f_is_name : Addr} {od_is_name an_is_name : Option Addr} {sl_is_name : Array (Option Value)} {oc_is_name kV_is_name dc_is_name pm_is_name cd_is_name ct_is_name : Value} (a_is_name : PySem.W.nsIn K mainGlobals "is_name" = some (some (.ref f_is_name))) (l_is_name : K.lookup f_is_name = some ⟨oc_is_name, od_is_name, .func (PySem.W.fnOf "is_name" "is_name" (defArgs s_is_name) (defBody s_is_name) (defScope s_is_name) .none kV_is_name dc_is_name pm_is_name an_is_name cd_is_name ct_is_name), sl_is_name⟩) (c_is_name : PySem.W.codeIn K cd_is_name "is_name" = true) (k_is_name : PySem.W.keepIn K (.ref f_is_name) = true)
    {f_is_title : Addr} {od_is_title an_is_title : Option Addr} {sl_is_title : Array (Option Value)} {oc_is_title kV_is_title dc_is_title pm_is_title cd_is_title ct_is_title : Value} (a_is_title : PySem.W.nsIn K mainGlobals "is_title" = some (some (.ref f_is_title))) (l_is_title : K.lookup f_is_title = some ⟨oc_is_title, od_is_title, .func (PySem.W.fnOf "is_title" "is_title" (defArgs s_is_title) (defBody s_is_title) (defScope s_is_title) .none kV_is_title dc_is_title pm_is_title an_is_title cd_is_title ct_is_title), sl_is_title⟩) (c_is_title : PySem.W.codeIn K cd_is_title "is_title" = true) (k_is_title : PySem.W.keepIn K (.ref f_is_title) = true)
    {f_is_letter : Addr} {od_is_letter an_is_letter : Option Addr} {sl_is_letter : Array (Option Value)} {oc_is_letter kV_is_letter dc_is_letter pm_is_letter cd_is_letter ct_is_letter : Value} (a_is_letter : PySem.W.nsIn K mainGlobals "is_letter" = some (some (.ref f_is_letter))) (l_is_letter : K.lookup f_is_letter = some ⟨oc_is_letter, od_is_letter, .func (PySem.W.fnOf "is_letter" "is_letter" (defArgs s_is_letter) (defBody s_is_letter) (defScope s_is_letter) .none kV_is_letter dc_is_letter pm_is_letter an_is_letter cd_is_letter ct_is_letter), sl_is_letter⟩) (c_is_letter : PySem.W.codeIn K cd_is_letter "is_letter" = true) (k_is_letter : PySem.W.keepIn K (.ref f_is_letter) = true)
    {f_check_letters : Addr} {od_check_letters an_check_letters : Option Addr} {sl_check_letters : Array (Option Value)} {oc_check_letters kV_check_letters dc_check_letters pm_check_letters cd_check_letters ct_check_letters : Value} (a_check_letters : PySem.W.nsIn K mainGlobals "check_letters" = some (some (.ref f_check_letters))) (l_check_letters : K.lookup f_check_letters = some ⟨oc_check_letters, od_check_letters, .func (PySem.W.fnOf "check_letters" "check_letters" (defArgs s_check_letters) (defBody s_check_letters) (defScope s_check_letters) .none kV_check_letters dc_check_letters pm_check_letters an_check_letters cd_check_letters ct_check_letters), sl_check_letters⟩) (c_check_letters : PySem.W.codeIn K cd_check_letters "check_letters" = true) (k_check_letters : PySem.W.keepIn K (.ref f_check_letters) = true)
    {f_names_of : Addr} {od_names_of an_names_of : Option Addr} {sl_names_of : Array (Option Value)} {oc_names_of kV_names_of dc_names_of pm_names_of cd_names_of ct_names_of : Value} (a_names_of : PySem.W.nsIn K mainGlobals "names_of" = some (some (.ref f_names_of))) (l_names_of : K.lookup f_names_of = some ⟨oc_names_of, od_names_of, .func (PySem.W.fnOf "names_of" "names_of" (defArgs s_names_of) (defBody s_names_of) (defScope s_names_of) .none kV_names_of dc_names_of pm_names_of an_names_of cd_names_of ct_names_of), sl_names_of⟩) (c_names_of : PySem.W.codeIn K cd_names_of "names_of" = true) (k_names_of : PySem.W.keepIn K (.ref f_names_of) = true)
    {f_told_parent : Addr} {od_told_parent an_told_parent : Option Addr} {sl_told_parent : Array (Option Value)} {oc_told_parent kV_told_parent dc_told_parent pm_told_parent cd_told_parent ct_told_parent : Value} (a_told_parent : PySem.W.nsIn K mainGlobals "told_parent" = some (some (.ref f_told_parent))) (l_told_parent : K.lookup f_told_parent = some ⟨oc_told_parent, od_told_parent, .func (PySem.W.fnOf "told_parent" "told_parent" (defArgs s_told_parent) (defBody s_told_parent) (defScope s_told_parent) .none kV_told_parent dc_told_parent pm_told_parent an_told_parent cd_told_parent ct_told_parent), sl_told_parent⟩) (c_told_parent : PySem.W.codeIn K cd_told_parent "told_parent" = true) (k_told_parent : PySem.W.keepIn K (.ref f_told_parent) = true)
    {f_wanted_of : Addr} {od_wanted_of an_wanted_of : Option Addr} {sl_wanted_of : Array (Option Value)} {oc_wanted_of kV_wanted_of dc_wanted_of pm_wanted_of cd_wanted_of ct_wanted_of : Value} (a_wanted_of : PySem.W.nsIn K mainGlobals "wanted_of" = some (some (.ref f_wanted_of))) (l_wanted_of : K.lookup f_wanted_of = some ⟨oc_wanted_of, od_wanted_of, .func (PySem.W.fnOf "wanted_of" "wanted_of" (defArgs s_wanted_of) (defBody s_wanted_of) (defScope s_wanted_of) .none kV_wanted_of dc_wanted_of pm_wanted_of an_wanted_of cd_wanted_of ct_wanted_of), sl_wanted_of⟩) (c_wanted_of : PySem.W.codeIn K cd_wanted_of "wanted_of" = true) (k_wanted_of : PySem.W.keepIn K (.ref f_wanted_of) = true)
    {f_ring_of : Addr} {od_ring_of an_ring_of : Option Addr} {sl_ring_of : Array (Option Value)} {oc_ring_of kV_ring_of dc_ring_of pm_ring_of cd_ring_of ct_ring_of : Value} (a_ring_of : PySem.W.nsIn K mainGlobals "ring_of" = some (some (.ref f_ring_of))) (l_ring_of : K.lookup f_ring_of = some ⟨oc_ring_of, od_ring_of, .func (PySem.W.fnOf "ring_of" "ring_of" (defArgs s_ring_of) (defBody s_ring_of) (defScope s_ring_of) .none kV_ring_of dc_ring_of pm_ring_of an_ring_of cd_ring_of ct_ring_of), sl_ring_of⟩) (c_ring_of : PySem.W.codeIn K cd_ring_of "ring_of" = true) (k_ring_of : PySem.W.keepIn K (.ref f_ring_of) = true)
    {f_parents_of : Addr} {od_parents_of an_parents_of : Option Addr} {sl_parents_of : Array (Option Value)} {oc_parents_of kV_parents_of dc_parents_of pm_parents_of cd_parents_of ct_parents_of : Value} (a_parents_of : PySem.W.nsIn K mainGlobals "parents_of" = some (some (.ref f_parents_of))) (l_parents_of : K.lookup f_parents_of = some ⟨oc_parents_of, od_parents_of, .func (PySem.W.fnOf "parents_of" "parents_of" (defArgs s_parents_of) (defBody s_parents_of) (defScope s_parents_of) .none kV_parents_of dc_parents_of pm_parents_of an_parents_of cd_parents_of ct_parents_of), sl_parents_of⟩) (c_parents_of : PySem.W.codeIn K cd_parents_of "parents_of" = true) (k_parents_of : PySem.W.keepIn K (.ref f_parents_of) = true)
    {f_parents : Addr} {od_parents an_parents : Option Addr} {sl_parents : Array (Option Value)} {oc_parents kV_parents dc_parents pm_parents cd_parents ct_parents : Value} (a_parents : PySem.W.nsIn K mainGlobals "parents" = some (some (.ref f_parents))) (l_parents : K.lookup f_parents = some ⟨oc_parents, od_parents, .func (PySem.W.fnOf "parents" "parents" (defArgs s_parents) (defBody s_parents) (defScope s_parents) .none kV_parents dc_parents pm_parents an_parents cd_parents ct_parents), sl_parents⟩) (c_parents : PySem.W.codeIn K cd_parents "parents" = true) (k_parents : PySem.W.keepIn K (.ref f_parents) = true)
    {f__law_number : Addr} {od__law_number an__law_number : Option Addr} {sl__law_number : Array (Option Value)} {oc__law_number kV__law_number dc__law_number pm__law_number cd__law_number ct__law_number : Value} (a__law_number : PySem.W.nsIn K mainGlobals "_law_number" = some (some (.ref f__law_number))) (l__law_number : K.lookup f__law_number = some ⟨oc__law_number, od__law_number, .func (PySem.W.fnOf "_law_number" "_law_number" (defArgs s__law_number) (defBody s__law_number) (defScope s__law_number) .none kV__law_number dc__law_number pm__law_number an__law_number cd__law_number ct__law_number), sl__law_number⟩) (c__law_number : PySem.W.codeIn K cd__law_number "_law_number" = true) (k__law_number : PySem.W.keepIn K (.ref f__law_number) = true)
    {f__law_letters : Addr} {od__law_letters an__law_letters : Option Addr} {sl__law_letters : Array (Option Value)} {oc__law_letters kV__law_letters dc__law_letters pm__law_letters cd__law_letters ct__law_letters : Value} (a__law_letters : PySem.W.nsIn K mainGlobals "_law_letters" = some (some (.ref f__law_letters))) (l__law_letters : K.lookup f__law_letters = some ⟨oc__law_letters, od__law_letters, .func (PySem.W.fnOf "_law_letters" "_law_letters" (defArgs s__law_letters) (defBody s__law_letters) (defScope s__law_letters) .none kV__law_letters dc__law_letters pm__law_letters an__law_letters cd__law_letters ct__law_letters), sl__law_letters⟩) (c__law_letters : PySem.W.codeIn K cd__law_letters "_law_letters" = true) (k__law_letters : PySem.W.keepIn K (.ref f__law_letters) = true)
    {f__law_copied : Addr} {od__law_copied an__law_copied : Option Addr} {sl__law_copied : Array (Option Value)} {oc__law_copied kV__law_copied dc__law_copied pm__law_copied cd__law_copied ct__law_copied : Value} (a__law_copied : PySem.W.nsIn K mainGlobals "_law_copied" = some (some (.ref f__law_copied))) (l__law_copied : K.lookup f__law_copied = some ⟨oc__law_copied, od__law_copied, .func (PySem.W.fnOf "_law_copied" "_law_copied" (defArgs s__law_copied) (defBody s__law_copied) (defScope s__law_copied) .none kV__law_copied dc__law_copied pm__law_copied an__law_copied cd__law_copied ct__law_copied), sl__law_copied⟩) (c__law_copied : PySem.W.codeIn K cd__law_copied "_law_copied" = true) (k__law_copied : PySem.W.keepIn K (.ref f__law_copied) = true)
    {f__law_wanted : Addr} {od__law_wanted an__law_wanted : Option Addr} {sl__law_wanted : Array (Option Value)} {oc__law_wanted kV__law_wanted dc__law_wanted pm__law_wanted cd__law_wanted ct__law_wanted : Value} (a__law_wanted : PySem.W.nsIn K mainGlobals "_law_wanted" = some (some (.ref f__law_wanted))) (l__law_wanted : K.lookup f__law_wanted = some ⟨oc__law_wanted, od__law_wanted, .func (PySem.W.fnOf "_law_wanted" "_law_wanted" (defArgs s__law_wanted) (defBody s__law_wanted) (defScope s__law_wanted) .none kV__law_wanted dc__law_wanted pm__law_wanted an__law_wanted cd__law_wanted ct__law_wanted), sl__law_wanted⟩) (c__law_wanted : PySem.W.codeIn K cd__law_wanted "_law_wanted" = true) (k__law_wanted : PySem.W.keepIn K (.ref f__law_wanted) = true)
    {f__law_parents : Addr} {od__law_parents an__law_parents : Option Addr} {sl__law_parents : Array (Option Value)} {oc__law_parents kV__law_parents dc__law_parents pm__law_parents cd__law_parents ct__law_parents : Value} (a__law_parents : PySem.W.nsIn K mainGlobals "_law_parents" = some (some (.ref f__law_parents))) (l__law_parents : K.lookup f__law_parents = some ⟨oc__law_parents, od__law_parents, .func (PySem.W.fnOf "_law_parents" "_law_parents" (defArgs s__law_parents) (defBody s__law_parents) (defScope s__law_parents) .none kV__law_parents dc__law_parents pm__law_parents an__law_parents cd__law_parents ct__law_parents), sl__law_parents⟩) (c__law_parents : PySem.W.codeIn K cd__law_parents "_law_parents" = true) (k__law_parents : PySem.W.keepIn K (.ref f__law_parents) = true)
    {f_law : Addr} {od_law an_law : Option Addr} {sl_law : Array (Option Value)} {oc_law kV_law dc_law pm_law cd_law ct_law : Value} (a_law : PySem.W.nsIn K mainGlobals "law" = some (some (.ref f_law))) (l_law : K.lookup f_law = some ⟨oc_law, od_law, .func (PySem.W.fnOf "law" "law" (defArgs s_law) (defBody s_law) (defScope s_law) .none kV_law dc_law pm_law an_law cd_law ct_law), sl_law⟩) (c_law : PySem.W.codeIn K cd_law "law" = true) (k_law : PySem.W.keepIn K (.ref f_law) = true) :
    ∃ fd : FuncData, (∀ (s : Shared) (v : Value), BindsTo s fd ⟨[v], []⟩ [("_law_script", v)]) ∧ ∀ base : Heap, K.In base → base.Ns mainGlobals mg → FnOk l.prog w K mg base (L2.CX l.prog w) 5 fa fd ["_law_script"] (spLaw K) := by
  have e := hfa.symm.trans (PySem.W.mg_of X G a_law)
  cases e
  have F_is_name := fun_mk (st := s_is_name) l_is_name c_is_name k_is_name
  have D_is_name := fun (base : Heap) => ok_is_name (P := l.prog) (w := w) (base := base) T F_is_name (PySem.W.mg_of X G a_is_name) (F_is_name.binds (ps := ["thing"]) fun _ _ _ _ _ _ us hl => match us, hl with | [_], _ => rfl)
  have F_is_title := fun_mk (st := s_is_title) l_is_title c_is_title k_is_title
  have D_is_title := fun (base : Heap) => ok_is_title (P := l.prog) (w := w) (base := base) T F_is_title (PySem.W.mg_of X G a_is_title) (F_is_title.binds (ps := ["thing"]) fun _ _ _ _ _ _ us hl => match us, hl with | [_], _ => rfl)
  have F_is_letter := fun_mk (st := s_is_letter) l_is_letter c_is_letter k_is_letter
  have D_is_letter := fun (base : Heap) => ok_is_letter (P := l.prog) (w := w) (base := base) T (D_is_name base) (D_is_title base) F_is_letter (PySem.W.mg_of X G a_is_letter) (F_is_letter.binds (ps := ["thing"]) fun _ _ _ _ _ _ us hl => match us, hl with | [_], _ => rfl)
  have F_check_letters := fun_mk (st := s_check_letters) l_check_letters c_check_letters k_check_letters
  have D_check_letters := fun (base : Heap) => ok_check_letters (P := l.prog) (w := w) (base := base) T (D_is_letter base) F_check_letters (PySem.W.mg_of X G a_check_letters) (F_check_letters.binds (ps := ["letters"]) fun _ _ _ _ _ _ us hl => match us, hl with | [_], _ => rfl)
  have F_names_of := fun_mk (st := s_names_of) l_names_of c_names_of k_names_of
  have D_names_of := fun (base : Heap) => ok_names_of (P := l.prog) (w := w) (base := base) T F_names_of (PySem.W.mg_of X G a_names_of) (F_names_of.binds (ps := ["letters"]) fun _ _ _ _ _ _ us hl => match us, hl with | [_], _ => rfl)
  have F_told_parent := fun_mk (st := s_told_parent) l_told_parent c_told_parent k_told_parent
  have D_told_parent := fun (base : Heap) => ok_told_parent (P := l.prog) (w := w) (base := base) T F_told_parent (PySem.W.mg_of X G a_told_parent) (F_told_parent.binds (ps := ["letters", "name"]) fun _ _ _ _ _ _ us hl => match us, hl with | [_, _], _ => rfl)
  have F_wanted_of := fun_mk (st := s_wanted_of) l_wanted_of c_wanted_of k_wanted_of
  have D_wanted_of := fun (base : Heap) => ok_wanted_of (P := l.prog) (w := w) (base := base) T (D_names_of base) (D_told_parent base) F_wanted_of (PySem.W.mg_of X G a_wanted_of) (F_wanted_of.binds (ps := ["letters"]) fun _ _ _ _ _ _ us hl => match us, hl with | [_], _ => rfl)
  have F_ring_of := fun_mk (st := s_ring_of) l_ring_of c_ring_of k_ring_of
  have D_ring_of := fun (base : Heap) => ok_ring_of (P := l.prog) (w := w) (base := base) T F_ring_of (PySem.W.mg_of X G a_ring_of) (F_ring_of.binds (ps := ["wanted", "name"]) fun _ _ _ _ _ _ us hl => match us, hl with | [_, _], _ => rfl)
  have F_parents_of := fun_mk (st := s_parents_of) l_parents_of c_parents_of k_parents_of
  have D_parents_of := fun (base : Heap) => ok_parents_of (P := l.prog) (w := w) (base := base) T (D_wanted_of base) (D_names_of base) (D_ring_of base) F_parents_of (PySem.W.mg_of X G a_parents_of) (F_parents_of.binds (ps := ["letters"]) fun _ _ _ _ _ _ us hl => match us, hl with | [_], _ => rfl)
  have F_parents := fun_mk (st := s_parents) l_parents c_parents k_parents
  have D_parents := fun (base : Heap) => ok_parents (P := l.prog) (w := w) (base := base) T (D_check_letters base) (D_parents_of base) F_parents (PySem.W.mg_of X G a_parents) (F_parents.binds (ps := ["letters"]) fun _ _ _ _ _ _ us hl => match us, hl with | [_], _ => rfl)
  have F__law_number := fun_mk (st := s__law_number) l__law_number c__law_number k__law_number
  have D__law_number := fun (base : Heap) => ok__law_number (P := l.prog) (w := w) (base := base) T F__law_number (PySem.W.mg_of X G a__law_number) (F__law_number.binds (ps := ["_law_cell", "_law_at", "_law_whole"]) fun _ _ _ _ _ _ us hl => match us, hl with | [_, _, _], _ => rfl)
  have F__law_letters := fun_mk (st := s__law_letters) l__law_letters c__law_letters k__law_letters
  have D__law_letters := fun (base : Heap) => ok__law_letters (P := l.prog) (w := w) (base := base) T (D__law_number base) F__law_letters (PySem.W.mg_of X G a__law_letters) (F__law_letters.binds (ps := ["_law_script", "_law_by", "_law_most"]) fun _ _ _ _ _ _ us hl => match us, hl with | [_, _, _], _ => rfl)
  have F__law_copied := fun_mk (st := s__law_copied) l__law_copied c__law_copied k__law_copied
  have D__law_copied := fun (base : Heap) => ok__law_copied (P := l.prog) (w := w) (base := base) T F__law_copied (PySem.W.mg_of X G a__law_copied) (F__law_copied.binds (ps := ["_law_letters_here"]) fun _ _ _ _ _ _ us hl => match us, hl with | [_], _ => rfl)
  have F__law_wanted := fun_mk (st := s__law_wanted) l__law_wanted c__law_wanted k__law_wanted
  have D__law_wanted := fun (base : Heap) => ok__law_wanted (P := l.prog) (w := w) (base := base) T F__law_wanted (PySem.W.mg_of X G a__law_wanted) (F__law_wanted.binds (ps := ["_law_letters_here"]) fun _ _ _ _ _ _ us hl => match us, hl with | [_], _ => rfl)
  have F__law_parents := fun_mk (st := s__law_parents) l__law_parents c__law_parents k__law_parents
  have D__law_parents := fun (base : Heap) => ok__law_parents (P := l.prog) (w := w) (base := base) T (D__law_wanted base) F__law_parents (PySem.W.mg_of X G a__law_parents) (F__law_parents.binds (ps := ["_law_letters_here"]) fun _ _ _ _ _ _ us hl => match us, hl with | [_], _ => rfl)
  have F_law := fun_mk (st := s_law) l_law c_law k_law
  exact ⟨PySem.W.fnOf "law" "law" (defArgs s_law) (defBody s_law) (defScope s_law) .none kV_law dc_law pm_law an_law cd_law ct_law, fun s v => .of_eq rfl, fun base _ _ => law_end (ok_law0 (base := base) T (D__law_letters base) (D__law_parents base) (D__law_copied base) (D_parents base) F_law) law_true⟩
end PV
open PySem PySem.W PyProof.Rows
set_option maxRecDepth 100000 in
set_option maxHeartbeats 0 in
theorem PySem.Challenge.cw_replythread_k02_whole_parents_holds : PySem.Challenge.rw_replythread_k02_whole_parents.Holds := by
  w_on; o_law; k_head; (case hw => w_witness2)
  k_fill
  refine L2.walk_ofB (l := PySem.Challenge.rw_replythread_k02_whole_parents) (n := 63) (k := 5) (x := "_law_script") (CX := fun w => L2.CX PySem.Challenge.rw_replythread_k02_whole_parents.prog w) (sp := fun w => PV.spLaw _) rfl (by decide) rfl ⟨rfl, by decide, by decide⟩ (fun w h Y => PySem.W.kIn_of Y) ?F (fun w H a ns hl hb hO hS => PV.law_start hl hb hO hS) ?X
  case X => exact fun _ _ _ _ _ h => PV.no_exc h
  case F =>
    intro w mg fa h KX G hmg
    refine' PV.all_mk KX G hmg (PV.txt_mk KX G ?z_bk ?a_BadLetters ?x_BadLetters ?k_BadLetters ?b_BadLetters ?t_BadLetters ?a_LONGEST_NAME ?a_LONGEST_TITLE ?a_MOST ?a_MOST_ANSWERS ?a_SIGNS ?z_all ?z_dict ?z_isinstance ?z_len ?z_list ?z_max ?z_min ?z_range ?z_set ?z_sorted ?z_str ?z_sum ?z_tuple ?z_zip) ?a_is_name ?l_is_name ?c_is_name ?k_is_name ?a_is_title ?l_is_title ?c_is_title ?k_is_title ?a_is_letter ?l_is_letter ?c_is_letter ?k_is_letter ?a_check_letters ?l_check_letters ?c_check_letters ?k_check_letters ?a_names_of ?l_names_of ?c_names_of ?k_names_of ?a_told_parent ?l_told_parent ?c_told_parent ?k_told_parent ?a_wanted_of ?l_wanted_of ?c_wanted_of ?k_wanted_of ?a_ring_of ?l_ring_of ?c_ring_of ?k_ring_of ?a_parents_of ?l_parents_of ?c_parents_of ?k_parents_of ?a_parents ?l_parents ?c_parents ?k_parents ?a__law_number ?l__law_number ?c__law_number ?k__law_number ?a__law_letters ?l__law_letters ?c__law_letters ?k__law_letters ?a__law_copied ?l__law_copied ?c__law_copied ?k__law_copied ?a__law_wanted ?l__law_wanted ?c__law_wanted ?k__law_wanted ?a__law_parents ?l__law_parents ?c__law_parents ?k__law_parents ?a_law ?l_law ?c_law ?k_law
    (case z_bk => k_is)
    (case a_BadLetters => k_is)
    (case x_BadLetters => k_exc)
    (case k_BadLetters => k_is)
    (case b_BadLetters => k_is)
    (case t_BadLetters => k_is)
    (case a_LONGEST_NAME => k_is)
    (case a_LONGEST_TITLE => k_is)
    (case a_MOST => k_is)
    (case a_MOST_ANSWERS => k_is)
    (case a_SIGNS => k_is)
    (case z_all => k_is)
    (case z_dict => k_is)
    (case z_isinstance => k_is)
    (case z_len => k_is)
    (case z_list => k_is)
    (case z_max => k_is)
    (case z_min => k_is)
    (case z_range => k_is)
    (case z_set => k_is)
    (case z_sorted => k_is)
    (case z_str => k_is)
    (case z_sum => k_is)
    (case z_tuple => k_is)
    (case z_zip => k_is)
    (case a_is_name => k_is)
    (case l_is_name => k_is)
    (case c_is_name => k_is)
    (case k_is_name => k_is)
    (case a_is_title => k_is)
    (case l_is_title => k_is)
    (case c_is_title => k_is)
    (case k_is_title => k_is)
    (case a_is_letter => k_is)
    (case l_is_letter => k_is)
    (case c_is_letter => k_is)
    (case k_is_letter => k_is)
    (case a_check_letters => k_is)
    (case l_check_letters => k_is)
    (case c_check_letters => k_is)
    (case k_check_letters => k_is)
    (case a_names_of => k_is)
    (case l_names_of => k_is)
    (case c_names_of => k_is)
    (case k_names_of => k_is)
    (case a_told_parent => k_is)
    (case l_told_parent => k_is)
    (case c_told_parent => k_is)
    (case k_told_parent => k_is)
    (case a_wanted_of => k_is)
    (case l_wanted_of => k_is)
    (case c_wanted_of => k_is)
    (case k_wanted_of => k_is)
    (case a_ring_of => k_is)
    (case l_ring_of => k_is)
    (case c_ring_of => k_is)
    (case k_ring_of => k_is)
    (case a_parents_of => k_is)
    (case l_parents_of => k_is)
    (case c_parents_of => k_is)
    (case k_parents_of => k_is)
    (case a_parents => k_is)
    (case l_parents => k_is)
    (case c_parents => k_is)
    (case k_parents => k_is)
    (case a__law_number => k_is)
    (case l__law_number => k_is)
    (case c__law_number => k_is)
    (case k__law_number => k_is)
    (case a__law_letters => k_is)
    (case l__law_letters => k_is)
    (case c__law_letters => k_is)
    (case k__law_letters => k_is)
    (case a__law_copied => k_is)
    (case l__law_copied => k_is)
    (case c__law_copied => k_is)
    (case k__law_copied => k_is)
    (case a__law_wanted => k_is)
    (case l__law_wanted => k_is)
    (case c__law_wanted => k_is)
    (case k__law_wanted => k_is)
    (case a__law_parents => k_is)
    (case l__law_parents => k_is)
    (case c__law_parents => k_is)
    (case k__law_parents => k_is)
    (case a_law => k_is)
    (case l_law => k_is)
    (case c_law => k_is)
    (case k_law => k_is)
#print axioms PySem.Challenge.cw_replythread_k02_whole_parents_holds

