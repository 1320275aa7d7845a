import PyProof.Rows.All
import Wide.All
import OpenK.AllK
import Wide.FinOn
import HandS.ForMost
import HandS.Exc
import HandS.ExcOwn
import HandS.Wide
import HandS.StrMore
import HandS.Deep
import HandS.IsInst
import HandS.Walk
import PyProof.NeKinds
import HandS.WideBits
import HandS.Style
import HandS.Flow
import HandS.More
import PyProof.Rows.StrCut
import HandS.WordsExc
import HandS.CallSlots
import HandS.EndBits
import PyProof.ExcBaseAll.ValueError
import KE.RegMulBits
import HandS.Set
import HandS.Strs
import HandS.TupSets
import HandS.SortOrd
import HandS.SortRule
import PyProof.Rows.SortShellAny
import KE.SortData
import KE.DataMinMax
import PyProof.Rows.StrMeet
import HandS.Iter
import HandS.SetKeys
import HandS.Replace
import HandS.SetFor
import KE.Datum
import PyProof.StrReplace2
import HandS.DictComp
import PyProof.FString5
import KE.KDictZip
import HandS.ExcIs
import PyProof.Draws
import PyProof.EnumMake
import HandS.TryOnly
import HandS.HotCalls
import PySem.Challenge.RW_replythread_k20_promises_by_hand
set_option Elab.async false
set_option linter.all false
set_option maxRecDepth 100000
set_option maxHeartbeats 8000000
namespace PV
open PySem PySem.Spec PyProof.Rows L2

abbrev Tx := List Nat
def mkS (x : Tx) : Str := ⟨x.toArray⟩
theorem mkS_cps (x : Tx) : (mkS x).cps.toList = x := rfl
theorem mkS_inj {x y : Tx} (h : mkS x = mkS y) : x = y := by
  have := congrArg (fun s : Str => s.cps.toList) h
  exact this
theorem mkS_tl (s : Str) : mkS s.cps.toList = s := by
  cases s
  rfl
theorem mkS_len (x : Tx) : (mkS x).length = x.length := by
  show x.toArray.size = x.length
  simp

inductive Dat where
  | non | bl (b : Bool) | int (i : Int) | str (x : Tx)
  | tup (xs : List Dat) | lst (xs : List Dat)
  /-- a list that is read alone: the script -/
  | rol (xs : List Dat)
  | dic (ks : List Tx) (vs : List Dat)
  | ins (c : Tx) (ks : List Tx) (vs : List Dat)
  | fn (n : Tx)
  deriving Inhabited

/-- the module: what the top has written, its names -/
structure Glo where
  K : PySem.W.Frag
  mg : Str → Option Value
abbrev glo (X : Cx) : Glo := ⟨X.K, X.mg⟩

def kvOf : List Tx → List V → List (Key × V)
  | k :: ks, v :: vs => (Sum.inr (mkS k), v) :: kvOf ks vs
  | _, _ => []
def fsOf : List Tx → List V → List (Str × V)
  | k :: ks, v :: vs => (mkS k, v) :: fsOf ks vs
  | _, _ => []
theorem kvOf_len : ∀ {ks : List Tx} {vs : List V}, ks.length = vs.length → (kvOf ks vs).length = ks.length
  | [], [], _ => rfl
  | [], _ :: _, h => by simp at h
  | _ :: _, [], h => by simp at h
  | k :: ks, v :: vs, h => by
    show (kvOf ks vs).length + 1 = ks.length + 1
    rw [kvOf_len (by simpa using h)]

def RoL (K : PySem.W.Frag) (H : Hp) (a : Addr) (xs : List V) : Prop :=
  (∃ ob, H a = some (.frz ob (.lst xs))) ∨ ∃ (o : Obj) (its : Array Value) (n : Nat), K.lookup a = some o ∧ o.cls = .type "list" ∧ o.dict = none ∧ o.data = .seq its n ∧ its.size ≤ sizeLine ∧ Vals xs its.toList

mutual
/-- v stands for d in H; fp: the addresses of what may be written in it, each as often as it is met -/
def Rep (G : Glo) (H : Hp) : Dat → V → List Addr → Prop
  | .non, v, fp => v = .non ∧ fp = []
  | .bl b, v, fp => v = .bl b ∧ fp = []
  | .int i, v, fp => v = .int i ∧ fp = []
  | .str x, v, fp => v = .str (mkS x) ∧ fp = []
  | .tup xs, v, fp => ∃ a vs, v = .ref a ∧ SqT G.K H a vs ∧ RepL G H xs vs fp
  | .lst xs, v, fp => ∃ a vs f, v = .ref a ∧ H a = some (.lst vs) ∧ RepL G H xs vs f ∧ fp = a :: f
  | .rol xs, v, fp => ∃ a vs, v = .ref a ∧ RoL G.K H a vs ∧ RepL G H xs vs fp
  | .dic ks ds, v, fp => ∃ a vs f, v = .ref a ∧ Rd H a (.dK (kvOf ks vs)) ∧ ks.length = vs.length ∧ RepL G H ds vs f ∧ fp = a :: f
  | .ins c ks ds, v, fp => ∃ a C dx vs f, v = .ref a ∧ G.mg (mkS c) = some (.ref C) ∧ H a = some (.ins C dx (fsOf ks vs)) ∧ ks.length = vs.length ∧ RepL G H ds vs f ∧ fp = a :: f
  | .fn n, v, fp => ∃ a, v = .ref a ∧ G.mg (mkS n) = some (.ref a) ∧ fp = []
def RepL (G : Glo) (H : Hp) : List Dat → List V → List Addr → Prop
  | [], vs, fp => vs = [] ∧ fp = []
  | d :: ds, vs, fp => ∃ v vs' f f', vs = v :: vs' ∧ fp = f ++ f' ∧ Rep G H d v f ∧ RepL G H ds vs' f'
end

/-- what may be written -/
def wrO : HO → Bool
  | .lst _ => true
  | .dK _ => true
  | .ins _ _ _ => true
  | _ => false
def Wr (H : Hp) (a : Addr) : Prop := ∃ o, H a = some o ∧ wrO o = true
theorem Wr.dic {H : Hp} {a : Addr} {kvs : List (Key × V)} (h : Wr H a) (r : Rd H a (.dK kvs)) : H a = some (.dK kvs) := by
  rcases r with r | ⟨o, r⟩
  · exact r
  · obtain ⟨u, e, w⟩ := h
    rw [r] at e
    cases e
    cases w

/-- all but what stands at W is kept for reading -/
structure Kp (W : List Addr) (H H' : Hp) : Prop where
  lst : ∀ b xs, b ∉ W → H b = some (.lst xs) → H' b = some (.lst xs)
  dic : ∀ b kvs, b ∉ W → Rd H b (.dK kvs) → Rd H' b (.dK kvs)
  frl : ∀ b xs, (∃ o, H b = some (.frz o (.lst xs))) → ∃ o, H' b = some (.frz o (.lst xs))
  ins : ∀ b C dx fs, b ∉ W → H b = some (.ins C dx fs) → H' b = some (.ins C dx fs)
  tup : ∀ b xs, Rd H b (.tup xs) → Rd H' b (.tup xs)
theorem Kp.same {H H' : Hp} (s : Same H H') : Kp [] H H' := by
  refine ⟨fun b xs _ e => s _ _ e, fun b u _ r => ?_, fun b xs ⟨o, e⟩ => ⟨o, s _ _ e⟩, fun b C dx fs _ e => s _ _ e, fun b xs r => ?_⟩
  · rcases r with r | ⟨o, r⟩
    · exact .inl (s _ _ r)
    · exact .inr ⟨o, s _ _ r⟩
  · rcases r with r | ⟨o, r⟩
    · exact .inl (s _ _ r)
    · exact .inr ⟨o, s _ _ r⟩
theorem Kp.upd {H : Hp} {a : Addr} {o : HO} (w : Wr H a) : Kp [a] H (upd H a o) := by
  have nw : ∀ b u, H b = some u → wrO u = false → b ≠ a := fun b u e wo z => by
    subst z
    obtain ⟨u', e', w'⟩ := w
    rw [e] at e'
    cases e'
    rw [wo] at w'
    cases w'
  refine ⟨fun b xs n e => ?_, fun b u n r => ?_, fun b xs ⟨ob, e⟩ => ⟨ob, ?_⟩, fun b C dx fs n e => ?_, fun b xs r => ?_⟩
  · have nb : b ≠ a := fun z => n (by simp [z])
    rw [upd_ne nb]
    exact e
  · have nb : b ≠ a := fun z => n (by simp [z])
    unfold Rd
    rw [upd_ne nb]
    exact r
  · rw [upd_ne (nw b _ e rfl)]
    exact e
  · have nb : b ≠ a := fun z => n (by simp [z])
    rw [upd_ne nb]
    exact e
  · have nb : b ≠ a := by
      rcases r with r | ⟨ob, r⟩
      · exact nw b _ r rfl
      · exact nw b _ r rfl
    unfold Rd
    rw [upd_ne nb]
    exact r
/-- .. and what is locked stays so -/
structure Kf (W : List Addr) (H H' : Hp) : Prop where
  kp : Kp W H H'
  frz : ∀ b ob u, H b = some (.frz ob u) → H' b = some (.frz ob u)
theorem Kf.same {H H' : Hp} (s : Same H H') : Kf [] H H' := ⟨Kp.same s, fun b ob u e => s _ _ e⟩
theorem Kf.upd {H : Hp} {a : Addr} {o : HO} (w : Wr H a) : Kf [a] H (upd H a o) := ⟨Kp.upd w, fun b ob u e => by
  have nb : b ≠ a := fun z => by
    subst z
    obtain ⟨u', e', w'⟩ := w
    rw [e] at e'
    cases e'
    cases w'
  rw [upd_ne nb]
  exact e⟩
/-- a dict is locked -/
theorem Kf.lck {H : Hp} {d : Addr} {od : Obj} {kvs : List (Key × V)} (h : H d = some (.dK kvs)) : Kf [] H (L2.upd H d (.frz od (.dK kvs))) := by
  have ne : ∀ b o, H b = some o → o ≠ .dK kvs → b ≠ d := fun b o e n z => by
    rw [z, h] at e
    injection e with e
    exact n e.symm
  refine ⟨⟨fun b xs _ e => ?_, fun b u _ r => ?_, fun b xs ⟨o, e⟩ => ⟨o, ?_⟩, fun b C dx fs _ e => ?_, fun b xs r => ?_⟩, fun b ob u e => ?_⟩
  · rw [upd_ne (ne b _ e (fun z => nomatch z))]
    exact e
  · by_cases hb : b = d
    · subst hb
      have e : HO.dK u = HO.dK kvs := by
        rcases r with r | ⟨o, r⟩
        · rw [h] at r
          injection r with r
          exact r.symm
        · rw [h] at r
          cases r
      rw [e]
      exact .inr ⟨od, upd_same⟩
    · unfold Rd
      rw [upd_ne hb]
      exact r
  · rw [upd_ne (ne b _ e (fun z => nomatch z))]
    exact e
  · rw [upd_ne (ne b _ e (fun z => nomatch z))]
    exact e
  · have hb : b ≠ d := by
      rcases r with r | ⟨o, r⟩
      · exact ne b _ r (fun z => nomatch z)
      · exact ne b _ r (fun z => nomatch z)
    unfold Rd
    rw [upd_ne hb]
    exact r
  · rw [upd_ne (ne b _ e (fun z => nomatch z))]
    exact e
/-- .. and free again -/
theorem Kp.unl {H : Hp} {d : Addr} {od : Obj} {kvs : List (Key × V)} (h : H d = some (.frz od (.dK kvs))) : Kp [] H (L2.upd H d (.dK kvs)) := by
  have ne : ∀ b o, H b = some o → o ≠ .frz od (.dK kvs) → b ≠ d := fun b o e n z => by
    rw [z, h] at e
    injection e with e
    exact n e.symm
  refine ⟨fun b xs _ e => ?_, fun b u _ r => ?_, fun b xs ⟨o, e⟩ => ⟨o, ?_⟩, fun b C dx fs _ e => ?_, fun b xs r => ?_⟩
  · rw [upd_ne (ne b _ e (fun z => nomatch z))]
    exact e
  · by_cases hb : b = d
    · subst hb
      have e : HO.dK u = HO.dK kvs := by
        rcases r with r | ⟨o, r⟩
        · rw [h] at r
          cases r
        · rw [h] at r
          injection r with r
          injection r with _ r
          exact r.symm
      rw [e]
      exact .inl upd_same
    · unfold Rd
      rw [upd_ne hb]
      exact r
  · rw [upd_ne (ne b _ e (fun z => by injection z with _ z; cases z))]
    exact e
  · rw [upd_ne (ne b _ e (fun z => nomatch z))]
    exact e
  · have hb : b ≠ d := by
      rcases r with r | ⟨o, r⟩
      · exact ne b _ r (fun z => nomatch z)
      · exact ne b _ r (fun z => by injection z with _ z; cases z)
    unfold Rd
    rw [upd_ne hb]
    exact r
theorem Kp.trans {W : List Addr} {H H1 H2 : Hp} (a : Kp W H H1) (b : Kp W H1 H2) : Kp W H H2 :=
  ⟨fun c xs n r => b.lst c xs n (a.lst c xs n r), fun c u n r => b.dic c u n (a.dic c u n r), fun c xs r => b.frl c xs (a.frl c xs r), fun c C dx fs n e => b.ins c C dx fs n (a.ins c C dx fs n e), fun c xs r => b.tup c xs (a.tup c xs r)⟩
theorem Kp.mono {W W' : List Addr} {H H1 : Hp} (a : Kp W H H1) (h : ∀ b ∈ W, b ∈ W') : Kp W' H H1 :=
  ⟨fun c xs n r => a.lst c xs (fun z => n (h c z)) r, fun c u n r => a.dic c u (fun z => n (h c z)) r, a.frl, fun c C dx fs n e => a.ins c C dx fs (fun z => n (h c z)) e, a.tup⟩

mutual
theorem Rep.kp {G : Glo} {H H' : Hp} {W : List Addr} (k : Kp W H H') : ∀ (d : Dat) (v : V) (fp : List Addr), Rep G H d v fp → (∀ a ∈ fp, a ∉ W) → Rep G H' d v fp
  | .non, _, _, h, _ => by simpa only [Rep] using h
  | .bl _, _, _, h, _ => by simpa only [Rep] using h
  | .int _, _, _, h, _ => by simpa only [Rep] using h
  | .str _, _, _, h, _ => by simpa only [Rep] using h
  | .fn _, _, _, h, _ => by simpa only [Rep] using h
  | .tup xs, v, fp, h, n => by
    simp only [Rep] at h ⊢
    obtain ⟨a, vs, e, q, r⟩ := h
    refine ⟨a, vs, e, ?_, RepL.kp k xs vs fp r n⟩
    rcases q with q | q
    · exact .inl (k.tup a vs q)
    · exact .inr q
  | .lst xs, v, fp, h, n => by
    simp only [Rep] at h ⊢
    obtain ⟨a, vs, f, e, q, r, ef⟩ := h
    subst ef
    exact ⟨a, vs, f, e, k.lst a _ (n a (by simp)) q, RepL.kp k xs vs f r fun b hb => n b (by simp [hb]), rfl⟩
  | .rol xs, v, fp, h, n => by
    simp only [Rep] at h ⊢
    obtain ⟨a, vs, e, q, r⟩ := h
    refine ⟨a, vs, e, ?_, RepL.kp k xs vs fp r n⟩
    rcases q with q | q
    · exact .inl (k.frl a vs q)
    · exact .inr q
  | .dic ks ds, v, fp, h, n => by
    simp only [Rep] at h ⊢
    obtain ⟨a, vs, f, e, q, l, r, ef⟩ := h
    subst ef
    exact ⟨a, vs, f, e, k.dic a _ (n a (by simp)) q, l, RepL.kp k ds vs f r fun b hb => n b (by simp [hb]), rfl⟩
  | .ins c ks ds, v, fp, h, n => by
    simp only [Rep] at h ⊢
    obtain ⟨a, C, dx, vs, f, e, m, q, l, r, ef⟩ := h
    subst ef
    exact ⟨a, C, dx, vs, f, e, m, k.ins a _ _ _ (n a (by simp)) q, l, RepL.kp k ds vs f r fun b hb => n b (by simp [hb]), rfl⟩
theorem RepL.kp {G : Glo} {H H' : Hp} {W : List Addr} (k : Kp W H H') : ∀ (ds : List Dat) (vs : List V) (fp : List Addr), RepL G H ds vs fp → (∀ a ∈ fp, a ∉ W) → RepL G H' ds vs fp
  | [], _, _, h, _ => by simpa only [RepL] using h
  | d :: ds, vs, fp, h, n => by
    simp only [RepL] at h ⊢
    obtain ⟨v, vs', f, f', e1, e2, r, rr⟩ := h
    subst e2
    exact ⟨v, vs', f, f', e1, rfl, Rep.kp k d v f r fun b hb => n b (by simp [hb]), RepL.kp k ds vs' f' rr fun b hb => n b (by simp [hb])⟩
end
theorem Rep.same {G : Glo} {H H' : Hp} (s : Same H H') {d : Dat} {v : V} {fp : List Addr} (h : Rep G H d v fp) : Rep G H' d v fp := Rep.kp (Kp.same s) d v fp h fun _ _ => by simp
theorem RepL.same {G : Glo} {H H' : Hp} (s : Same H H') {d : List Dat} {v : List V} {fp : List Addr} (h : RepL G H d v fp) : RepL G H' d v fp := RepL.kp (Kp.same s) d v fp h fun _ _ => by simp

mutual
/-- what may be written is tracked -/
theorem Rep.trk {G : Glo} {H : Hp} : ∀ (d : Dat) (v : V) (fp : List Addr), Rep G H d v fp → ∀ a ∈ fp, H a ≠ none
  | .non, _, _, h => by
    simp only [Rep] at h
    simp [h.2]
  | .bl _, _, _, h => by
    simp only [Rep] at h
    simp [h.2]
  | .int _, _, _, h => by
    simp only [Rep] at h
    simp [h.2]
  | .str _, _, _, h => by
    simp only [Rep] at h
    simp [h.2]
  | .fn _, _, _, h => by
    simp only [Rep] at h
    obtain ⟨_, _, _, e⟩ := h
    simp [e]
  | .tup xs, v, fp, h => by
    simp only [Rep] at h
    obtain ⟨a, vs, e, q, r⟩ := h
    exact RepL.trk xs vs fp r
  | .lst xs, v, fp, h => by
    simp only [Rep] at h
    obtain ⟨a, vs, f, e, q, r, ef⟩ := h
    subst ef
    intro b hb
    rcases List.mem_cons.mp hb with z | z
    · subst z
      simp [q]
    · exact RepL.trk xs vs f r b z
  | .rol xs, v, fp, h => by
    simp only [Rep] at h
    obtain ⟨a, vs, e, q, r⟩ := h
    exact RepL.trk xs vs fp r
  | .dic ks ds, v, fp, h => by
    simp only [Rep] at h
    obtain ⟨a, vs, f, e, q, l, r, ef⟩ := h
    subst ef
    intro b hb
    rcases List.mem_cons.mp hb with z | z
    · subst z
      rcases q with q | ⟨o, q⟩ <;> simp [q]
    · exact RepL.trk ds vs f r b z
  | .ins c ks ds, v, fp, h => by
    simp only [Rep] at h
    obtain ⟨a, C, dx, vs, f, e, m, q, l, r, ef⟩ := h
    subst ef
    intro b hb
    rcases List.mem_cons.mp hb with z | z
    · subst z
      simp [q]
    · exact RepL.trk ds vs f r b z
theorem RepL.trk {G : Glo} {H : Hp} : ∀ (ds : List Dat) (vs : List V) (fp : List Addr), RepL G H ds vs fp → ∀ a ∈ fp, H a ≠ none
  | [], _, _, h => by
    simp only [RepL] at h
    simp [h.2]
  | d :: ds, vs, fp, h => by
    simp only [RepL] at h
    obtain ⟨v, vs', f, f', e1, e2, r, rr⟩ := h
    subst e2
    intro b hb
    rcases List.mem_append.mp hb with z | z
    · exact Rep.trk d v f r b z
    · exact RepL.trk ds vs' f' rr b z
end

mutual
/-- nothing in it may be written -/
def flat : Dat → Bool
  | .lst _ => false
  | .dic _ _ => false
  | .ins _ _ _ => false
  | .tup xs => flatL xs
  | .rol xs => flatL xs
  | _ => true
def flatL : List Dat → Bool
  | [] => true
  | d :: ds => flat d && flatL ds
end
theorem flatL_all : ∀ ds : List Dat, flatL ds = ds.all flat
  | [] => rfl
  | d :: ds => by
    simp only [flatL, List.all_cons, flatL_all ds]
mutual
theorem Rep.flat {G : Glo} {H : Hp} : ∀ (d : Dat) (v : V) (fp : List Addr), Rep G H d v fp → flat d = true → fp = []
  | .non, _, _, h, _ => by
    simp only [Rep] at h
    exact h.2
  | .bl _, _, _, h, _ => by
    simp only [Rep] at h
    exact h.2
  | .int _, _, _, h, _ => by
    simp only [Rep] at h
    exact h.2
  | .str _, _, _, h, _ => by
    simp only [Rep] at h
    exact h.2
  | .fn _, _, _, h, _ => by
    simp only [Rep] at h
    obtain ⟨_, _, _, e⟩ := h
    exact e
  | .tup xs, v, fp, h, n => by
    simp only [Rep] at h
    obtain ⟨a, vs, e, q, r⟩ := h
    exact RepL.flat xs vs fp r (by simpa only [PV.flat] using n)
  | .rol xs, v, fp, h, n => by
    simp only [Rep] at h
    obtain ⟨a, vs, e, q, r⟩ := h
    exact RepL.flat xs vs fp r (by simpa only [PV.flat] using n)
  | .lst _, _, _, _, n => by simp [PV.flat] at n
  | .dic _ _, _, _, _, n => by simp [PV.flat] at n
  | .ins _ _ _, _, _, _, n => by simp [PV.flat] at n
theorem RepL.flat {G : Glo} {H : Hp} : ∀ (ds : List Dat) (vs : List V) (fp : List Addr), RepL G H ds vs fp → flatL ds = true → fp = []
  | [], _, _, h, _ => by
    simp only [RepL] at h
    exact h.2
  | d :: ds, vs, fp, h, n => by
    simp only [RepL] at h
    simp only [flatL, Bool.and_eq_true] at n
    obtain ⟨v, vs', f, f', e1, e2, r, rr⟩ := h
    subst e2
    rw [Rep.flat d v f r n.1, RepL.flat ds vs' f' rr n.2]
    rfl
end

theorem RepL.len {G : Glo} {H : Hp} : ∀ {ds : List Dat} {vs : List V} {fp : List Addr}, RepL G H ds vs fp → vs.length = ds.length
  | [], _, _, h => by
    simp only [RepL] at h
    simp [h.1]
  | d :: ds, vs, fp, h => by
    simp only [RepL] at h
    obtain ⟨v, vs', f, f', e1, e2, r, rr⟩ := h
    subst e1
    simp [RepL.len rr]
theorem RepL.nil {G : Glo} {H : Hp} : RepL G H [] [] [] := by simp [RepL]
theorem RepL.cons {G : Glo} {H : Hp} {d : Dat} {ds : List Dat} {v : V} {vs : List V} {f f' : List Addr} (h : Rep G H d v f) (r : RepL G H ds vs f') : RepL G H (d :: ds) (v :: vs) (f ++ f') := by
  simp only [RepL]
  exact ⟨v, vs, f, f', rfl, rfl, h, r⟩
theorem RepL.one {G : Glo} {H : Hp} {d : Dat} {v : V} {f : List Addr} (h : Rep G H d v f) : RepL G H [d] [v] f := by
  have := RepL.cons h (RepL.nil (G := G) (H := H))
  simpa using this
theorem RepL.app {G : Glo} {H : Hp} : ∀ {ds es : List Dat} {vs us : List V} {f g : List Addr}, RepL G H ds vs f → RepL G H es us g → RepL G H (ds ++ es) (vs ++ us) (f ++ g)
  | [], es, _, us, _, g, h, r => by
    simp only [RepL] at h
    rw [h.1, h.2]
    exact r
  | d :: ds, es, _, us, _, g, h, r => by
    simp only [RepL] at h
    obtain ⟨v, vs', f, f', e1, e2, rd, rr⟩ := h
    subst e1
    subst e2
    rw [List.append_assoc]
    exact RepL.cons rd (RepL.app rr r)
/-- cut in two -/
theorem RepL.cut {G : Glo} {H : Hp} : ∀ {ds es : List Dat} {vs : List V} {fp : List Addr}, RepL G H (ds ++ es) vs fp → ∃ us ws f g, vs = us ++ ws ∧ fp = f ++ g ∧ RepL G H ds us f ∧ RepL G H es ws g
  | [], es, vs, fp, h => ⟨[], vs, [], fp, rfl, rfl, RepL.nil, h⟩
  | d :: ds, es, vs, fp, h => by
    have h' : RepL G H (d :: (ds ++ es)) vs fp := h
    simp only [RepL] at h'
    obtain ⟨v, vs', f, f', e1, e2, rd, rr⟩ := h'
    obtain ⟨us, ws, f1, g1, q1, q2, q3, q4⟩ := RepL.cut rr
    subst e1
    subst e2
    subst q1
    subst q2
    exact ⟨v :: us, ws, f ++ f1, g1, rfl, by simp, RepL.cons rd q3, q4⟩
/-- the i-th -/
theorem RepL.at {G : Glo} {H : Hp} : ∀ {ds : List Dat} {vs : List V} {fp : List Addr} {i : Nat} {d : Dat}, RepL G H ds vs fp → ds[i]? = some d → ∃ v f, vs[i]? = some v ∧ Rep G H d v f ∧ (∀ a ∈ f, a ∈ fp)
  | [], _, _, _, _, _, e => by simp at e
  | d :: ds, _, _, 0, x, h, e => by
    simp only [RepL] at h
    obtain ⟨v, vs', f, f', e1, e2, rd, rr⟩ := h
    subst e1
    subst e2
    simp at e
    subst e
    exact ⟨v, f, rfl, rd, fun a ha => by simp [ha]⟩
  | d :: ds, _, _, i + 1, x, h, e => by
    simp only [RepL] at h
    obtain ⟨v, vs', f, f', e1, e2, rd, rr⟩ := h
    subst e1
    subst e2
    obtain ⟨u, g, q1, q2, q3⟩ := RepL.at (i := i) rr (by simpa using e)
    exact ⟨u, g, by simpa using q1, q2, fun a ha => by simp [q3 a ha]⟩
/-- any choice of items -/
theorem RepL.pick {G : Glo} {H : Hp} {ds : List Dat} {vs : List V} {fp : List Addr} (h : RepL G H ds vs fp) : ∀ (ix : List Nat), (∀ i ∈ ix, i < ds.length) →
    ∃ f, RepL G H (ix.filterMap fun i => ds[i]?) (ix.filterMap fun i => vs[i]?) f ∧ ∀ a ∈ f, a ∈ fp
  | [], _ => ⟨[], RepL.nil, fun _ z => by simp at z⟩
  | i :: ix, hi => by
    obtain ⟨f, r, hf⟩ := RepL.pick h ix fun j hj => hi j (by simp [hj])
    have hl : i < ds.length := hi i (by simp)
    have e : ds[i]? = some ds[i] := List.getElem?_eq_getElem hl
    obtain ⟨v, g, q1, q2, q3⟩ := RepL.at h e
    refine ⟨g ++ f, ?_, fun a ha => ?_⟩
    · rw [List.filterMap_cons, List.filterMap_cons, e, q1]
      exact RepL.cons q2 r
    · rcases List.mem_append.mp ha with z | z
      · exact q3 a z
      · exact hf a z
theorem RepL.take {G : Glo} {H : Hp} {ds : List Dat} {vs : List V} {fp : List Addr} (h : RepL G H ds vs fp) (n : Nat) : ∃ f, RepL G H (ds.take n) (vs.take n) f ∧ ∀ a ∈ f, a ∈ fp := by
  have h0 : RepL G H (ds.take n ++ ds.drop n) vs fp := by
    rw [List.take_append_drop]
    exact h
  obtain ⟨us, ws, f, g, e1, e2, r1, r2⟩ := RepL.cut h0
  refine ⟨f, ?_, fun a ha => by simp [e2, ha]⟩
  have l1 := r1.len
  have e3 : vs.take n = us := by
    rw [e1]
    by_cases hn : n ≤ ds.length
    · rw [List.take_append_of_le_length (by rw [l1, List.length_take]; omega), List.take_of_length_le (by rw [l1, List.length_take]; omega)]
    · have : ws = [] := by
        have l2 := r2.len
        rw [List.length_drop] at l2
        exact List.eq_nil_of_length_eq_zero (by omega)
      rw [this, List.append_nil, List.take_of_length_le (by rw [l1, List.length_take]; omega)]
  rw [e3]
  exact r1
theorem RepL.drop {G : Glo} {H : Hp} {ds : List Dat} {vs : List V} {fp : List Addr} (h : RepL G H ds vs fp) (n : Nat) : ∃ f, RepL G H (ds.drop n) (vs.drop n) f ∧ ∀ a ∈ f, a ∈ fp := by
  have h0 : RepL G H (ds.take n ++ ds.drop n) vs fp := by
    rw [List.take_append_drop]
    exact h
  obtain ⟨us, ws, f, g, e1, e2, r1, r2⟩ := RepL.cut h0
  refine ⟨g, ?_, fun a ha => by simp [e2, ha]⟩
  have l1 := r1.len
  have e3 : vs.drop n = ws := by
    rw [e1]
    by_cases hn : n ≤ ds.length
    · rw [List.drop_append_of_le_length (by rw [l1, List.length_take]; omega), List.drop_eq_nil_of_le (by rw [l1, List.length_take]; omega), List.nil_append]
    · have : ws = [] := by
        have l2 := r2.len
        rw [List.length_drop] at l2
        exact List.eq_nil_of_length_eq_zero (by omega)
      rw [this, List.append_nil, List.drop_eq_nil_of_le (by rw [l1, List.length_take]; omega)]
  rw [e3]
  exact r2
theorem RepL.rev {G : Glo} {H : Hp} : ∀ {ds : List Dat} {vs : List V} {fp : List Addr}, RepL G H ds vs fp → ∃ f, RepL G H ds.reverse vs.reverse f ∧ f.Perm fp
  | [], _, _, h => by
    simp only [RepL] at h
    rw [h.1, h.2]
    exact ⟨[], RepL.nil, .nil⟩
  | d :: ds, _, _, h => by
    simp only [RepL] at h
    obtain ⟨v, vs', f, f', e1, e2, rd, rr⟩ := h
    subst e1
    subst e2
    obtain ⟨g, q, p⟩ := RepL.rev rr
    refine ⟨g ++ f, ?_, ?_⟩
    · rw [List.reverse_cons, List.reverse_cons]
      exact RepL.app q (RepL.one rd)
    · exact (List.perm_append_comm).trans (p.append_left f)
end PV

namespace PV
open PySem PySem.Spec L2

inductive Res (α : Type) where
  | ok (a : α) | exc (c : Tx) | no
def Res.bind {α β : Type} : Res α → (α → Res β) → Res β
  | .ok a, f => f a
  | .exc c, _ => .exc c
  | .no, _ => .no
theorem bind_ok {α β : Type} (a : α) (f : α → Res β) : (Res.ok a).bind f = f a := rfl
/-- what an expression gives: the data; is its root new; from which slots what may be written in it may come; which slots it takes whole, each once, all else new -/
structure Rs where
  d : Dat
  rt : Bool := false
  src : List Nat := []
  mv : Option (List Nat) := none
def rsF (d : Dat) : Rs := ⟨d, false, [], some []⟩

inductive Kd where
  | deep | root | shr | lk
  deriving DecidableEq
abbrev Sto := List (Option (Dat × Kd))
abbrev Fp := Nat → List Addr

def slot (E : Sto) (i : Nat) : Option (Dat × Kd) := match E[i]? with
  | some o => o
  | none => none
theorem slot_some {E : Sto} {i : Nat} {x : Dat × Kd} (h : slot E i = some x) : E[i]? = some (some x) := by
  unfold slot at h
  split at h
  · rename_i o e
    rw [e, h]
  · cases h

/-- the slots' data lie in H -/
structure RepE (G : Glo) (H : Hp) (E : Sto) (σ : St) (F : Fp) : Prop where
  len : E.length = σ.length
  rep : ∀ i d k, slot E i = some (d, k) → ∃ v, σ[i]? = some (some v) ∧ Rep G H d v (F i)
  emp : ∀ i, slot E i = none → F i = []
theorem RepE.kp {G : Glo} {H H' : Hp} {E : Sto} {σ : St} {F : Fp} {W : List Addr} (r : RepE G H E σ F) (k : Kp W H H') (n : ∀ i, ∀ a ∈ F i, a ∉ W) : RepE G H' E σ F :=
  ⟨r.len, fun i d kd e => let ⟨v, h1, h2⟩ := r.rep i d kd e; ⟨v, h1, Rep.kp k d v _ h2 (n i)⟩, r.emp⟩
theorem RepE.same {G : Glo} {H H' : Hp} {E : Sto} {σ : St} {F : Fp} (r : RepE G H E σ F) (s : Same H H') : RepE G H' E σ F := r.kp (Kp.same s) fun _ _ _ => by simp
theorem RepE.trk {G : Glo} {H : Hp} {E : Sto} {σ : St} {F : Fp} (r : RepE G H E σ F) (i : Nat) : ∀ a ∈ F i, H a ≠ none := by
  cases e : slot E i with
  | none =>
    intro a ha
    rw [r.emp i e] at ha
    cases ha
  | some x =>
    obtain ⟨d, k⟩ := x
    obtain ⟨v, _, h⟩ := r.rep i d k e
    exact Rep.trk d v _ h

/-- where what may be written comes from, as told -/
structure Prov (H : Hp) (F : Fp) (r : Rs) (H' : Hp) (fp : List Addr) : Prop where
  src : ∀ a ∈ fp, H a = none ∨ ∃ i ∈ r.src, a ∈ F i
  rt : r.rt = true → ∃ a f, fp = a :: f ∧ H a = none ∧ Wr H' a ∧ a ∉ f
  mv : ∀ m, r.mv = some m → ∃ fr, fp.Perm (fr ++ (m.map F).flatten) ∧ fr.Nodup ∧ ∀ a ∈ fr, H a = none ∧ Wr H' a
structure Gv (G : Glo) (H : Hp) (F : Fp) (r : Rs) (v : V) (H' : Hp) (fp : List Addr) : Prop where
  rep : Rep G H' r.d v fp
  prv : Prov H F r H' fp
theorem Wr.same {H H' : Hp} {a : Addr} (s : Same H H') (w : Wr H a) : Wr H' a := let ⟨o, e, z⟩ := w; ⟨o, s _ _ e, z⟩
theorem Gv.same {G : Glo} {H H1 H2 : Hp} {F : Fp} {r : Rs} {v : V} {fp : List Addr} (g : Gv G H F r v H1 fp) (s : Same H1 H2) : Gv G H F r v H2 fp :=
  ⟨g.rep.same s, g.prv.src, fun e => let ⟨a, f, h1, h2, h3, h4⟩ := g.prv.rt e; ⟨a, f, h1, h2, h3.same s, h4⟩, fun m e => let ⟨fr, h1, h2, h3⟩ := g.prv.mv m e; ⟨fr, h1, h2, fun a ha => ⟨(h3 a ha).1, (h3 a ha).2.same s⟩⟩⟩
theorem Prov.back {H0 H : Hp} {F : Fp} {r : Rs} {H' : Hp} {fp : List Addr} (s : Same H0 H) (p : Prov H F r H' fp) : Prov H0 F r H' fp :=
  ⟨fun a ha => (p.src a ha).imp s.free id, fun e => let ⟨a, f, h1, h2, h3⟩ := p.rt e; ⟨a, f, h1, s.free h2, h3⟩, fun m e => let ⟨fr, h1, h2, h3⟩ := p.mv m e; ⟨fr, h1, h2, fun a ha => ⟨s.free (h3 a ha).1, (h3 a ha).2⟩⟩⟩
theorem Gv.back {G : Glo} {H0 H : Hp} {F : Fp} {r : Rs} {v : V} {H' : Hp} {fp : List Addr} (s : Same H0 H) (g : Gv G H F r v H' fp) : Gv G H0 F r v H' fp := ⟨g.rep, g.prv.back s⟩
/-- what holds nothing that may be written -/
theorem Gv.flat {G : Glo} {H : Hp} {F : Fp} {d : Dat} {v : V} {H' : Hp} (r : Rep G H' d v []) : Gv G H F (rsF d) v H' [] :=
  ⟨r, ⟨(fun _ z => nomatch z), (fun z => nomatch z), fun m e => by
    have : m = [] := by
      injection e with e
      exact e.symm
    subst this
    exact ⟨[], .nil, .nil, (fun _ z => nomatch z)⟩⟩⟩

/-- how an outcome meets what is wanted: H0 the heap ahead of the whole, H now -/
def Out (X : Cx) (W : WX) (H0 H : Hp) (F : Fp) (σ : St) (o : Res Rs) (Q : VK) : Prop := match o with
  | .ok r => ∀ v H' fp, Same H H' → Gv (glo X) H0 F r v H' fp → Q v H'
  | .exc c => ∀ C H', X.mg (mkS c) = some (.ref C) → Same H H' → W (.ref C) none σ H'
  | .no => False
def tEv (X : Cx) (W : WX) (f : Sto → Res Rs) : TE := fun σ H Q => ∃ E F, RepE (glo X) H E σ F ∧ Out X W H H F σ (f E) Q
/-- e, evaluated over pure data, is f -/
structure Ev (X : Cx) (W : WX) (e : Expr) (f : Sto → Res Rs) : Prop where
  pe : PE X e (tEv X W f)
theorem weakE {X : Cx} {e : Expr} {t t' : TE} (p : PE X e t) (w : ∀ σ H Q, t' σ H Q → t σ H Q) : PE X e t' := ⟨fun pins s σ H Q I h => p.run pins s σ H Q I (w σ H Q h)⟩
theorem weakT {X : Cx} {e : Expr} {t t' : TT} (p : PT X e t) (w : ∀ σ H Q, t' σ H Q → t σ H Q) : PT X e t' := ⟨fun pins s σ H Q I h => p.run pins s σ H Q I (w σ H Q h)⟩
theorem weakA {X : Cx} {es : List Expr} {t t' : TA} (p : PA X es t) (w : ∀ σ H Q, t' σ H Q → t σ H Q) : PA X es t' := ⟨fun pos pins s σ H Q I h => p.run pos pins s σ H Q I (w σ H Q h)⟩
theorem weakS {X : Cx} {st : Stmt} {t t' : TS} (p : PS X st t) (w : ∀ D σ H, t' D σ H → t D σ H) : PS X st t' := ⟨fun pins s σ H D I h => p.run pins s σ H D I (w D σ H h)⟩
theorem weakSs {X : Cx} {st : List Stmt} {t t' : TS} (p : PSs X st t) (w : ∀ D σ H, t' D σ H → t D σ H) : PSs X st t' := ⟨fun pins s σ H D I h => p.run pins s σ H D I (w D σ H h)⟩

section
variable {X : Cx} {W : WX}
/-- one after another: the part f now, the rest k behind it -/
theorem seqE {f : Sto → Res Rs} {E : Sto} {F : Fp} {σ : St} {H0 H : Hp} {k : Rs → Res Rs} {Q Q' : VK} (re : RepE (glo X) H E σ F) (s : Same H0 H) (o : Out X W H0 H F σ ((f E).bind k) Q)
    (h : ∀ r v H1 fp, f E = .ok r → Same H H1 → Gv (glo X) H0 F r v H1 fp → Out X W H0 H1 F σ (k r) Q → Q' v H1) : tEv X W f σ H Q' := by
  refine ⟨E, F, re, ?_⟩
  cases e : f E with
  | no =>
    rw [e] at o
    exact o
  | exc c =>
    rw [e] at o
    exact o
  | ok r =>
    intro v H1 fp s1 g
    refine h r v H1 fp e s1 (g.back s) ?_
    rw [e] at o
    show Out X W H0 H1 F σ (k r) Q
    have o : Out X W H0 H F σ (k r) Q := o
    cases e2 : k r with
    | no =>
      rw [e2] at o
      exact o
    | exc c =>
      rw [e2] at o
      exact fun C H' m s2 => o C H' m (s1.trans s2)
    | ok r2 =>
      rw [e2] at o
      exact fun v2 H2 fp2 s2 g2 => o v2 H2 fp2 (s1.trans s2) g2
theorem Out.mono {H0 H H1 : Hp} {F : Fp} {σ : St} {o : Res Rs} {Q : VK} (h : Out X W H0 H F σ o Q) (s : Same H H1) : Out X W H0 H1 F σ o Q := by
  cases o with
  | no => exact h
  | exc c => exact fun C H' m s2 => h C H' m (s.trans s2)
  | ok r => exact fun v2 H2 fp2 s2 g2 => h v2 H2 fp2 (s.trans s2) g2
theorem Out.imp {H0 H : Hp} {F : Fp} {σ : St} {o : Res Rs} {Q Q' : VK} (h : Out X W H0 H F σ o Q) (i : ∀ v H', Same H H' → Q v H' → Q' v H') : Out X W H0 H F σ o Q' := by
  cases o with
  | no => exact h
  | exc c => exact h
  | ok r => exact fun v2 H2 fp2 s2 g2 => i v2 H2 s2 (h v2 H2 fp2 s2 g2)
/-- a flat answer -/
theorem Out.flat {H0 H : Hp} {F : Fp} {σ : St} {d : Dat} {Q : VK} {v : V} (h : Out X W H0 H F σ (.ok (rsF d)) Q) (r : Rep (glo X) H d v []) : Q v H := h v H [] (Same.refl H) (Gv.flat r)

def fC (d : Dat) : Sto → Res Rs := fun _ => .ok (rsF d)
theorem ev_int {i j pos} : Ev X W (.Constant (.int i) j pos) (fC (.int i)) :=
  ⟨weakE pe_int fun σ H Q ⟨E, F, re, o⟩ => o.flat (by simp [Rep])⟩
theorem ev_bl {b j pos} : Ev X W (.Constant (.bool b) j pos) (fC (.bl b)) :=
  ⟨weakE pe_bl fun σ H Q ⟨E, F, re, o⟩ => o.flat (by simp [Rep])⟩
theorem ev_non {j pos} : Ev X W (.Constant .none j pos) (fC .non) :=
  ⟨weakE pe_non fun σ H Q ⟨E, F, re, o⟩ => o.flat (by simp [Rep])⟩
theorem ev_str {s : Str} {x : Tx} {j pos} (hx : s.cps.toList = x := by rfl) : Ev X W (.Constant (.str s) j pos) (fC (.str x)) :=
  ⟨weakE pe_str fun σ H Q ⟨E, F, re, o⟩ => o.flat (by simp [Rep, ← hx, mkS_tl])⟩
def rVar (i : Nat) (d : Dat) (k : Kd) : Rs := if flat d then rsF d else ⟨d, false, [i], if k = .deep then some [i] else none⟩
def fVar (i : Nat) : Sto → Res Rs := fun E => match slot E i with
  | some (d, k) => .ok (rVar i d k)
  | none => .no
theorem rVar_gv {G : Glo} {H : Hp} {E : Sto} {σ : St} {F : Fp} {i : Nat} {d : Dat} {k : Kd} {v : V} (r : Rep G H d v (F i)) : Gv G H F (rVar i d k) v H (F i) := by
  unfold rVar
  by_cases h : flat d = true
  · rw [if_pos h]
    have e := Rep.flat d v _ r h
    rw [e] at r ⊢
    exact Gv.flat r
  · rw [if_neg h]
    refine ⟨r, fun a ha => .inr ⟨i, by simp, ha⟩, fun z => by simp at z, fun m e => ?_⟩
    by_cases hk : k = .deep
    · have e' : some [i] = some m := by simpa [hk] using e
      injection e' with e'
      subst e'
      exact ⟨[], by simp, .nil, (fun _ z => nomatch z)⟩
    · have e' : (none : Option (List Nat)) = some m := by simpa [hk] using e
      cases e'
theorem rVar_d {i : Nat} {d : Dat} {k : Kd} : (rVar i d k).d = d := by
  unfold rVar
  split <;> rfl
theorem ev_var (i : Nat) {x : Str} {pos : Pos} (hN : X.N[i]? = some x := by rfl) (hv : Vis X.env.scope x := by first | exact Or.inl rfl | exact Or.inr (Or.inl rfl) | exact Or.inr (Or.inr rfl)) (hd : (x == ("__debug__" : Str)) = false := by decide)
    (hcd : (x == ("__classdict__" : Str)) = false := by decide) : Ev X W (.Name x pos) (fVar i) := by
  refine ⟨weakE (pe_var (i := i) hN hv hd hcd) fun σ H Q ⟨E, F, re, o⟩ => ?_⟩
  unfold fVar at o
  cases e : slot E i with
  | none =>
    simp only [e] at o
    exact o.elim
  | some y =>
    obtain ⟨d, k⟩ := y
    simp only [e] at o
    obtain ⟨v, h1, h2⟩ := re.rep i d k e
    exact ⟨v, h1, o v H (F i) (Same.refl H) (rVar_gv (E := E) (σ := σ) h2)⟩
/-- a constant of the module -/
theorem ev_glob {x : Str} {d : Dat} {u : Value} {v : V} {pos : Pos} (hg : Gl X x) (hm : X.mg x = some u) (r : RelV v u) (hr : Rep (glo X) (fun _ => none) d v []) (hd : (x == ("__debug__" : Str)) = false := by decide) : Ev X W (.Name x pos) (fC d) :=
  ⟨weakE (pe_glob hg hm r hd) fun σ H Q ⟨E, F, re, o⟩ => o.flat (hr.same fun _ _ z => by cases z)⟩

def OutB (X : Cx) (W : WX) (H : Hp) (σ : St) (o : Res Bool) (Q : Bool → Hp → Prop) : Prop := match o with
  | .ok b => ∀ H', Same H H' → Q b H'
  | .exc c => ∀ C H', X.mg (mkS c) = some (.ref C) → Same H H' → W (.ref C) none σ H'
  | .no => False
def tEt (X : Cx) (W : WX) (f : Sto → Res Bool) : TT := fun σ H Q => ∃ E F, RepE (glo X) H E σ F ∧ OutB X W H σ (f E) Q
structure Et (X : Cx) (W : WX) (e : Expr) (f : Sto → Res Bool) : Prop where
  pt : PT X e (tEt X W f)
/-- for and, or: the whole is given -/
structure Ew (X : Cx) (W : WX) (e : Expr) (f : Sto → Res Bool) : Prop where
  pw : PW X e (tEt X W f)
theorem OutB.mono {H H1 : Hp} {σ : St} {o : Res Bool} {Q : Bool → Hp → Prop} (h : OutB X W H σ o Q) (s : Same H H1) : OutB X W H1 σ o Q := by
  cases o with
  | no => exact h
  | exc c => exact fun C H' m s2 => h C H' m (s.trans s2)
  | ok r => exact fun H2 s2 => h H2 (s.trans s2)
theorem seqT {f : Sto → Res Bool} {E : Sto} {F : Fp} {σ : St} {H : Hp} {k : Bool → Res Bool} {Q Q' : Bool → Hp → Prop} (re : RepE (glo X) H E σ F) (o : OutB X W H σ ((f E).bind k) Q)
    (h : ∀ b H1, f E = .ok b → Same H H1 → OutB X W H1 σ (k b) Q → Q' b H1) : tEt X W f σ H Q' := by
  refine ⟨E, F, re, ?_⟩
  cases e : f E with
  | no =>
    rw [e] at o
    exact o
  | exc c =>
    rw [e] at o
    exact o
  | ok b =>
    intro H1 s1
    rw [e] at o
    exact h b H1 e s1 (OutB.mono (show OutB X W H σ (k b) Q from o) s1)
/-- a value that is a truth, as a test -/
def toB (r : Rs) : Res Bool := match r.d with
  | .bl b => .ok b
  | _ => .no
def tOf (f : Sto → Res Rs) : Sto → Res Bool := fun E => (f E).bind toB
theorem seqET {f : Sto → Res Rs} {E : Sto} {F : Fp} {σ : St} {H : Hp} {k : Rs → Res Bool} {Q : Bool → Hp → Prop} {Q' : VK} (re : RepE (glo X) H E σ F) (o : OutB X W H σ ((f E).bind k) Q)
    (h : ∀ r v H1 fp, f E = .ok r → Same H H1 → Gv (glo X) H F r v H1 fp → OutB X W H1 σ (k r) Q → Q' v H1) : tEv X W f σ H Q' := by
  refine ⟨E, F, re, ?_⟩
  cases e : f E with
  | no =>
    rw [e] at o
    exact o
  | exc c =>
    rw [e] at o
    exact o
  | ok r =>
    intro v H1 fp s1 g
    rw [e] at o
    exact h r v H1 fp e s1 g (OutB.mono (show OutB X W H σ (k r) Q from o) s1)
theorem et_of {e : Expr} {f : Sto → Res Rs} (h : Ev X W e f) (he : ∀ whole, isTrue e X.env whole = (do let v ← whole; standAt e.pos; holding [v] (truthy v)) := by intro _; rfl) : Et X W e (tOf f) := by
  refine ⟨weakT (pt_val h.pe he) fun σ H Q ⟨E, F, re, o⟩ => ?_⟩
  refine seqET re o fun r v H1 fp e s1 g o1 => ?_
  have gr := g.rep
  unfold toB at o1
  cases ed : r.d with
  | bl b =>
    simp only [ed] at o1
    rw [ed] at gr
    simp only [Rep] at gr
    exact ⟨b, gr.1, o1 H1 (Same.refl H1)⟩
  | _ =>
    simp only [ed] at o1
    exact o1.elim
def tNot' (f : Sto → Res Bool) : Sto → Res Bool := fun E => (f E).bind fun b => .ok (!b)
theorem et_not {e : Expr} {f : Sto → Res Bool} {pos : Pos} (h : Et X W e f) : Et X W (.UnaryOp .Not e pos) (tNot' f) := by
  refine ⟨weakT (pt_not h.pt) fun σ H Q ⟨E, F, re, o⟩ => ?_⟩
  exact seqT re o fun b H1 e s1 o1 => o1 H1 (Same.refl H1)
def tAnd' (f g : Sto → Res Bool) : Sto → Res Bool := fun E => (f E).bind fun b => if b then g E else .ok false
def tOr' (f g : Sto → Res Bool) : Sto → Res Bool := fun E => (f E).bind fun b => if b then .ok true else g E
theorem ew_and1 {a : Expr} {f : Sto → Res Bool} {pos : Pos} (h : Et X W a f) : Ew X W (.BoolOp .And [a] pos) f := ⟨pw_and1 h.pt⟩
theorem ew_or1 {a : Expr} {f : Sto → Res Bool} {pos : Pos} (h : Et X W a f) : Ew X W (.BoolOp .Or [a] pos) f := ⟨pw_or1 h.pt⟩
theorem ew_and {a b : Expr} {rest : List Expr} {f g : Sto → Res Bool} {pos : Pos} (ha : Et X W a f) (hb : Ew X W (.BoolOp .And (b :: rest) pos) g) : Ew X W (.BoolOp .And (a :: b :: rest) pos) (tAnd' f g) := by
  refine ⟨⟨fun wh pins s σ H Q I ⟨E, F, re, o⟩ => (pw_and ha.pt hb.pw).run wh pins s σ H Q I ?_⟩⟩
  refine seqT re o fun b H1 e s1 o1 => ?_
  cases b with
  | true =>
    rw [if_pos rfl]
    exact ⟨E, F, re.same s1, o1⟩
  | false =>
    rw [if_neg Bool.false_ne_true]
    exact o1 H1 (Same.refl H1)
theorem ew_or {a b : Expr} {rest : List Expr} {f g : Sto → Res Bool} {pos : Pos} (ha : Et X W a f) (hb : Ew X W (.BoolOp .Or (b :: rest) pos) g) : Ew X W (.BoolOp .Or (a :: b :: rest) pos) (tOr' f g) := by
  refine ⟨⟨fun wh pins s σ H Q I ⟨E, F, re, o⟩ => (pw_or ha.pt hb.pw).run wh pins s σ H Q I ?_⟩⟩
  refine seqT re o fun b H1 e s1 o1 => ?_
  cases b with
  | false =>
    rw [if_neg Bool.false_ne_true]
    exact ⟨E, F, re.same s1, o1⟩
  | true =>
    rw [if_pos rfl]
    exact o1 H1 (Same.refl H1)
theorem Ew.et {e : Expr} {f : Sto → Res Bool} (h : Ew X W e f) : Et X W e f := ⟨h.pw.pt⟩

def fAnd (f g : Sto → Res Rs) : Sto → Res Rs := fun E => (f E).bind fun r => match r.d with
  | .bl true => g E
  | .bl false => .ok (rsF (.bl false))
  | _ => .no
def fOr (f g : Sto → Res Rs) : Sto → Res Rs := fun E => (f E).bind fun r => match r.d with
  | .bl false => g E
  | .bl true => .ok (rsF (.bl true))
  | _ => .no
def fNot (f : Sto → Res Rs) : Sto → Res Rs := fun E => (f E).bind fun r => match r.d with
  | .bl b => .ok (rsF (.bl (!b)))
  | _ => .no
theorem ev_one {a : Expr} {op} {f : Sto → Res Rs} {pos : Pos} (h : Ev X W a f) : Ev X W (.BoolOp op [a] pos) f := ⟨pe_one h.pe⟩
/-- a part in the same slots, later -/
theorem tail {g : Sto → Res Rs} {E : Sto} {F : Fp} {σ : St} {H0 H : Hp} {Q : VK} (re : RepE (glo X) H E σ F) (s : Same H0 H) (o : Out X W H0 H F σ (g E) Q) : tEv X W g σ H Q := by
  refine ⟨E, F, re, ?_⟩
  cases e : g E with
  | no =>
    rw [e] at o
    exact o
  | exc c =>
    rw [e] at o
    exact o
  | ok r =>
    rw [e] at o
    exact fun v H1 fp s1 g => o v H1 fp s1 (g.back s)
theorem ev_and {a b : Expr} {rest : List Expr} {f g : Sto → Res Rs} {pos : Pos} (ha : Ev X W a f) (hb : Ev X W (.BoolOp .And (b :: rest) pos) g) : Ev X W (.BoolOp .And (a :: b :: rest) pos) (fAnd f g) := by
  refine ⟨weakE (pe_and ha.pe hb.pe) fun σ H Q ⟨E, F, re, o⟩ => ?_⟩
  refine seqE re (Same.refl H) o fun r v H1 fp e s1 g1 o1 => ?_
  have gr := g1.rep
  cases ed : r.d with
  | bl c =>
    rw [ed] at gr
    simp only [Rep] at gr
    refine ⟨c, gr.1, ?_⟩
    cases c with
    | true =>
      simp only [ed] at o1
      rw [if_pos rfl]
      exact tail (re.same s1) s1 o1
    | false =>
      simp only [ed] at o1
      rw [if_neg Bool.false_ne_true]
      exact o1.flat (by simp [Rep])
  | _ =>
    simp only [ed] at o1
    exact o1.elim
theorem ev_or {a b : Expr} {rest : List Expr} {f g : Sto → Res Rs} {pos : Pos} (ha : Ev X W a f) (hb : Ev X W (.BoolOp .Or (b :: rest) pos) g) : Ev X W (.BoolOp .Or (a :: b :: rest) pos) (fOr f g) := by
  refine ⟨weakE (pe_or ha.pe hb.pe) fun σ H Q ⟨E, F, re, o⟩ => ?_⟩
  refine seqE re (Same.refl H) o fun r v H1 fp e s1 g1 o1 => ?_
  have gr := g1.rep
  cases ed : r.d with
  | bl c =>
    rw [ed] at gr
    simp only [Rep] at gr
    refine ⟨c, gr.1, ?_⟩
    cases c with
    | false =>
      simp only [ed] at o1
      rw [if_neg Bool.false_ne_true]
      exact tail (re.same s1) s1 o1
    | true =>
      simp only [ed] at o1
      rw [if_pos rfl]
      exact o1.flat (by simp [Rep])
  | _ =>
    simp only [ed] at o1
    exact o1.elim
def fIf (t : Sto → Res Bool) (f g : Sto → Res Rs) : Sto → Res Rs := fun E => (t E).bind fun b => if b then f E else g E
theorem seqTE {f : Sto → Res Bool} {E : Sto} {F : Fp} {σ : St} {H0 H : Hp} {k : Bool → Res Rs} {Q : VK} {Q' : Bool → Hp → Prop} (re : RepE (glo X) H E σ F) (o : Out X W H0 H F σ ((f E).bind k) Q)
    (h : ∀ b H1, f E = .ok b → Same H H1 → Out X W H0 H1 F σ (k b) Q → Q' b H1) : tEt X W f σ H Q' := by
  refine ⟨E, F, re, ?_⟩
  cases e : f E with
  | no =>
    rw [e] at o
    exact o
  | exc c =>
    rw [e] at o
    exact o
  | ok b =>
    intro H1 s1
    rw [e] at o
    exact h b H1 e s1 (Out.mono (show Out X W H0 H F σ (k b) Q from o) s1)
theorem ev_if {c a b : Expr} {t : Sto → Res Bool} {f g : Sto → Res Rs} {pos : Pos} (hc : Et X W c t) (ha : Ev X W a f) (hb : Ev X W b g) : Ev X W (.IfExp c a b pos) (fIf t f g) := by
  refine ⟨weakE (pe_ifExp hc.pt ha.pe hb.pe) fun σ H Q ⟨E, F, re, o⟩ => ?_⟩
  refine seqTE re o fun b H1 e s1 o1 => ?_
  cases b with
  | true =>
    rw [if_pos rfl]
    exact tail (re.same s1) s1 o1
  | false =>
    rw [if_neg Bool.false_ne_true]
    exact tail (re.same s1) s1 o1

/-- several values: their data in order -/
inductive GvL (G : Glo) (H : Hp) (F : Fp) : List Rs → List V → Hp → List Addr → Prop
  | nil {H'} : GvL G H F [] [] H' []
  | cons {r rs v vs H' f f'} : Gv G H F r v H' f → GvL G H F rs vs H' f' → (∀ a ∈ f', a ∈ f → ∃ i ∈ r.src, a ∈ F i) → GvL G H F (r :: rs) (v :: vs) H' (f ++ f')
theorem GvL.same {G : Glo} {H H1 H2 : Hp} {F : Fp} {rs : List Rs} {vs : List V} {fp : List Addr} (g : GvL G H F rs vs H1 fp) (s : Same H1 H2) : GvL G H F rs vs H2 fp := by
  induction g with
  | nil => exact .nil
  | cons h _ z ih => exact .cons (h.same s) (ih s) z
theorem GvL.reps {G : Glo} {H H1 : Hp} {F : Fp} {rs : List Rs} {vs : List V} {fp : List Addr} (g : GvL G H F rs vs H1 fp) : RepL G H1 (rs.map (·.d)) vs fp := by
  induction g with
  | nil => exact RepL.nil
  | cons h _ z ih => exact RepL.cons h.rep ih
def OutA (X : Cx) (W : WX) (H0 H : Hp) (F : Fp) (σ : St) (o : Res (List Rs)) (Q : List V → Hp → Prop) : Prop := match o with
  | .ok rs => ∀ vs H' fp, Same H H' → GvL (glo X) H0 F rs vs H' fp → Q vs H'
  | .exc c => ∀ C H', X.mg (mkS c) = some (.ref C) → Same H H' → W (.ref C) none σ H'
  | .no => False
def tEa (X : Cx) (W : WX) (f : Sto → Res (List Rs)) : TA := fun σ H Q => ∃ E F, RepE (glo X) H E σ F ∧ OutA X W H H F σ (f E) Q
structure Ea (X : Cx) (W : WX) (es : List Expr) (f : Sto → Res (List Rs)) : Prop where
  pa : PA X es (tEa X W f)
def aNil : Sto → Res (List Rs) := fun _ => .ok []
def aCons (f : Sto → Res Rs) (g : Sto → Res (List Rs)) : Sto → Res (List Rs) := fun E => (f E).bind fun r => (g E).bind fun rs => .ok (r :: rs)
theorem ea_nil : Ea X W [] aNil := ⟨weakA pa_nil fun σ H Q ⟨E, F, re, o⟩ => o [] H [] (Same.refl H) .nil⟩
theorem GvL.back {G : Glo} {H0 H H1 : Hp} {F : Fp} {rs : List Rs} {vs : List V} {fp : List Addr} (s : Same H0 H) (g : GvL G H F rs vs H1 fp) : GvL G H0 F rs vs H1 fp := by
  induction g with
  | nil => exact .nil
  | cons h _ z ih => exact .cons (h.back s) ih z
/-- what is new at H is not of what was there -/
theorem GvL.src {G : Glo} {H H1 : Hp} {F : Fp} {rs : List Rs} {vs : List V} {fp : List Addr} (g : GvL G H F rs vs H1 fp) : ∀ a ∈ fp, H a = none ∨ ∃ r ∈ rs, ∃ i ∈ r.src, a ∈ F i := by
  induction g with
  | nil => exact (fun _ z => nomatch z)
  | cons h _ z ih =>
    intro a ha
    rcases List.mem_append.mp ha with q | q
    · rcases h.prv.src a q with w | ⟨i, hi, w⟩
      · exact .inl w
      · exact .inr ⟨_, by simp, i, hi, w⟩
    · rcases ih a q with w | ⟨r, hr, i, hi, w⟩
      · exact .inl w
      · exact .inr ⟨r, by simp [hr], i, hi, w⟩
theorem ea_cons {e : Expr} {es : List Expr} {f : Sto → Res Rs} {g : Sto → Res (List Rs)} (ha : Ev X W e f) (hb : Ea X W es g) (hs : starEach (e :: es) X.env = (false, eval e X.env) :: starEach es X.env := by rfl) : Ea X W (e :: es) (aCons f g) := by
  refine ⟨weakA (pa_cons ha.pe hb.pa hs) fun σ H Q ⟨E, F, re, o⟩ => ?_⟩
  refine ⟨E, F, re, ?_⟩
  unfold aCons at o
  cases e1 : f E with
  | no =>
    rw [e1] at o
    exact o
  | exc c =>
    rw [e1] at o
    exact o
  | ok r =>
    rw [e1] at o
    intro v H1 fp s1 g1
    refine ⟨E, F, re.same s1, ?_⟩
    cases e2 : g E with
    | no =>
      simp only [bind_ok, e2] at o
      exact o
    | exc c =>
      simp only [bind_ok, e2] at o
      exact fun C H' m s2 => o C H' m (s1.trans s2)
    | ok rs =>
      simp only [bind_ok, e2] at o
      intro vs H2 fp2 s2 g2
      refine o (v :: vs) H2 (fp ++ fp2) (s1.trans s2) (.cons (g1.same s2) (g2.back s1) fun a h1 h2 => ?_)
      have t1 := Rep.trk _ _ _ g1.rep a h2
      rcases g2.src a h1 with w | ⟨r', hr', i, hi, w⟩
      · exact absurd w t1
      · have t0 := re.trk i a w
        rcases g1.prv.src a h2 with w' | w'
        · exact absurd w' t0
        · exact w'
/-- what a display of these holds -/
def allSrc (rs : List Rs) : List Nat := rs.flatMap (·.src)
def allMv : List Rs → Option (List Nat)
  | [] => some []
  | r :: rs => match r.mv, allMv rs with
    | some m, some n => some (m ++ n)
    | _, _ => none
/-- the slots that are taken whole, and what they hold, stand apart -/
theorem GvL.prov {G : Glo} {H H1 : Hp} {F : Fp} {rs : List Rs} {vs : List V} {fp : List Addr} (hF : ∀ i, ∀ a ∈ F i, H a ≠ none) (g : GvL G H F rs vs H1 fp) :
    (∀ a ∈ fp, H a = none ∨ ∃ i ∈ allSrc rs, a ∈ F i) ∧ ∀ m, allMv rs = some m → ∃ fr, fp.Perm (fr ++ (m.map F).flatten) ∧ fr.Nodup ∧ ∀ a ∈ fr, H a = none ∧ Wr H1 a := by
  refine ⟨fun a ha => ?_, ?_⟩
  · rcases g.src a ha with w | ⟨r, hr, i, hi, w⟩
    · exact .inl w
    · exact .inr ⟨i, List.mem_flatMap.mpr ⟨r, hr, hi⟩, w⟩
  · induction g with
    | nil =>
      intro m e
      have : m = [] := by
        injection e with e
        exact e.symm
      subst this
      exact ⟨[], .nil, .nil, (fun _ z => nomatch z)⟩
    | @cons r rs v vs H' f f' h _ z ih =>
      intro m e
      unfold allMv at e
      cases e1 : r.mv with
      | none =>
        simp only [e1] at e
        cases e
      | some m1 =>
        cases e2 : allMv rs with
        | none =>
          simp only [e1, e2] at e
          cases e
        | some m2 =>
          simp only [e1, e2] at e
          injection e with e
          subst e
          obtain ⟨fr1, p1, n1, w1⟩ := h.prv.mv m1 e1
          obtain ⟨fr2, p2, n2, w2⟩ := ih m2 e2
          refine ⟨fr1 ++ fr2, ?_, ?_, fun a ha => ?_⟩
          · rw [List.map_append, List.flatten_append]
            have q := p1.append p2
            refine q.trans ?_
            rw [List.append_assoc, List.append_assoc]
            refine List.Perm.append_left fr1 ?_
            rw [← List.append_assoc, ← List.append_assoc]
            exact List.Perm.append_right _ List.perm_append_comm
          · refine List.nodup_append.mpr ⟨n1, n2, fun a ha b hb eab => ?_⟩
            subst eab
            have hf1 : a ∈ f := p1.mem_iff.mpr (by simp [ha])
            have hf2 : a ∈ f' := p2.mem_iff.mpr (by simp [hb])
            obtain ⟨i, _, w⟩ := z a hf2 hf1
            exact hF i a w (w1 a ha).1
          · rcases List.mem_append.mp ha with q | q
            · exact w1 a q
            · exact w2 a q
def rTup (rs : List Rs) : Rs := ⟨.tup (rs.map (·.d)), false, allSrc rs, allMv rs⟩
def rLst (rs : List Rs) : Rs := ⟨.lst (rs.map (·.d)), true, allSrc rs, allMv rs⟩
def fTup (a : Sto → Res (List Rs)) : Sto → Res Rs := fun E => (a E).bind fun rs => if rs.length ≤ 1000000 then .ok (rTup rs) else .no
def fLst (a : Sto → Res (List Rs)) : Sto → Res Rs := fun E => (a E).bind fun rs => if rs.length ≤ 1000000 then .ok (rLst rs) else .no
theorem same_new {H : Hp} {p : Addr} {o : HO} (h : H p = none) : Same H (upd H p o) := fun b x e => by
  rw [upd_ne (ne_of_none e h)]
  exact e
theorem seqA {f : Sto → Res (List Rs)} {E : Sto} {F : Fp} {σ : St} {H : Hp} {k : List Rs → Res Rs} {Q : VK} {Q' : List V → Hp → Prop} (re : RepE (glo X) H E σ F) (o : Out X W H H F σ ((f E).bind k) Q)
    (h : ∀ rs vs H1 fp, f E = .ok rs → Same H H1 → GvL (glo X) H F rs vs H1 fp → Out X W H H1 F σ (k rs) Q → Q' vs H1) : tEa X W f σ H Q' := by
  refine ⟨E, F, re, ?_⟩
  cases e : f E with
  | no =>
    rw [e] at o
    exact o
  | exc c =>
    rw [e] at o
    exact o
  | ok rs =>
    intro vs H1 fp s1 g
    rw [e] at o
    exact h rs vs H1 fp e s1 g (Out.mono (show Out X W H H F σ (k rs) Q from o) s1)
theorem sizeLine_le {n : Nat} (h : n ≤ 1000000) : n ≤ sizeLine := Nat.le_trans h (by decide)
theorem sizeLine_lt {n : Nat} (h : n ≤ 1000000) : n < sizeLine := Nat.lt_of_le_of_lt h (by decide)
theorem GvL.len {G : Glo} {H H1 : Hp} {F : Fp} {rs : List Rs} {vs : List V} {fp : List Addr} (g : GvL G H F rs vs H1 fp) : vs.length = rs.length := by
  have := g.reps.len
  rw [List.length_map] at this
  exact this
theorem ev_tup {es : List Expr} {a : Sto → Res (List Rs)} {x1} {pos : Pos} (h : Ea X W es a) : Ev X W (.Tuple es x1 pos) (fTup a) := by
  refine ⟨weakE (pe_tup h.pa) fun σ H Q ⟨E, F, re, o⟩ => ?_⟩
  refine seqA re o fun rs vs H1 fp e s1 g o1 => ?_
  by_cases hl : rs.length ≤ 1000000
  · rw [if_pos hl] at o1
    refine ⟨sizeLine_le (by rw [g.len]; exact hl), fun p hp => ?_⟩
    obtain ⟨p1, p2⟩ := g.prov (fun i => re.trk i)
    refine o1 _ _ fp (same_new hp) ⟨?_, p1, (fun z => nomatch z), fun m em => ?_⟩
    · show Rep (glo X) (upd H1 p (.tup vs)) (.tup (rs.map (·.d))) (.ref p) fp
      simp only [Rep]
      exact ⟨p, vs, rfl, .inl (.inl upd_same), g.reps.same (same_new hp)⟩
    · obtain ⟨fr, q1, q2, q3⟩ := p2 m em
      exact ⟨fr, q1, q2, fun a ha => ⟨(q3 a ha).1, (q3 a ha).2.same (same_new hp)⟩⟩
  · rw [if_neg hl] at o1
    exact o1.elim
theorem ev_lst {es : List Expr} {a : Sto → Res (List Rs)} {pos : Pos} (h : Ea X W es a) : Ev X W (.List es pos) (fLst a) := by
  refine ⟨weakE (pe_lst h.pa) fun σ H Q ⟨E, F, re, o⟩ => ?_⟩
  refine seqA re o fun rs vs H1 fp e s1 g o1 => ?_
  by_cases hl : rs.length ≤ 1000000
  · rw [if_pos hl] at o1
    refine ⟨sizeLine_le (by rw [g.len]; exact hl), fun p hp => ?_⟩
    obtain ⟨p1, p2⟩ := g.prov (fun i => re.trk i)
    have hn : H p = none := s1.free hp
    have nfp : p ∉ fp := fun z => RepL.trk _ _ _ g.reps p z hp
    have wp : Wr (upd H1 p (.lst vs)) p := ⟨_, upd_same, rfl⟩
    refine o1 _ _ (p :: fp) (same_new hp) ⟨?_, fun a ha => ?_, fun _ => ⟨p, fp, rfl, hn, wp, nfp⟩, fun m em => ?_⟩
    · show Rep (glo X) (upd H1 p (.lst vs)) (.lst (rs.map (·.d))) (.ref p) (p :: fp)
      simp only [Rep]
      exact ⟨p, vs, fp, rfl, upd_same, g.reps.same (same_new hp), rfl⟩
    · rcases List.mem_cons.mp ha with z | z
      · rw [z]
        exact .inl hn
      · exact p1 a z
    · obtain ⟨fr, q1, q2, q3⟩ := p2 m em
      refine ⟨p :: fr, q1.cons p, List.nodup_cons.mpr ⟨fun z => nfp (q1.mem_iff.mpr (by simp [z])), q2⟩, fun a ha => ?_⟩
      rcases List.mem_cons.mp ha with z | z
      · rw [z]
        exact ⟨hn, wp⟩
      · exact ⟨(q3 a z).1, (q3 a z).2.same (same_new hp)⟩
  · rw [if_neg hl] at o1
    exact o1.elim
end
end PV

namespace PV
open PySem PySem.Spec L2

inductive Vw where
  | non | bl (b : Bool) | int (i : Int) | str (x : Tx) | seq (t : Bool) (xs : List Dat) | oth
def vw : Dat → Vw
  | .non => .non
  | .bl b => .bl b
  | .int i => .int i
  | .str x => .str x
  | .tup xs => .seq true xs
  | .lst xs => .seq false xs
  | .rol xs => .seq false xs
  | _ => .oth
def eqL (f : Dat → Dat → Res Bool) : List Dat → List Dat → Res Bool
  | [], [] => .ok true
  | [], _ :: _ => .ok false
  | _ :: _, [] => .ok false
  | x :: xs, y :: ys => (f x y).bind fun b => (eqL f xs ys).bind fun c => .ok (b && c)
def eqD : Nat → Dat → Dat → Res Bool
  | 0, _, _ => .no
  | n + 1, a, b => match vw a, vw b with
    | .non, .non => .ok true
    | .bl x, .bl y => .ok (x == y)
    | .bl x, .int y => .ok ((if x then 1 else 0) == y)
    | .int x, .bl y => .ok (x == (if y then 1 else 0))
    | .int x, .int y => .ok (x == y)
    | .str x, .str y => .ok (decide (x = y))
    | .seq t xs, .seq u ys => if t = u then eqL (eqD n) xs ys else .ok false
    | .oth, _ => .no
    | _, .oth => .no
    | _, _ => .ok false
def getB : Res Bool → Bool
  | .ok b => b
  | _ => false
theorem eqL_at {f : Dat → Dat → Res Bool} : ∀ {xs ys : List Dat} {r : Bool}, eqL f xs ys = .ok r →
    ((List.range (min xs.length ys.length)).all (fun j => getB (f (xs.getD j .non) (ys.getD j .non))) && xs.length == ys.length) = r ∧
    ∀ (j : Nat) (x y : Dat), xs[j]? = some x → ys[j]? = some y → ∃ b, f x y = .ok b
  | [], [], r, h => by
    simp only [eqL] at h
    cases h
    exact ⟨rfl, fun j x y e _ => by simp at e⟩
  | [], _ :: _, r, h => by
    simp only [eqL] at h
    cases h
    exact ⟨by simp, fun j x y e _ => by simp at e⟩
  | _ :: _, [], r, h => by
    simp only [eqL] at h
    cases h
    exact ⟨by simp, fun j x y _ e => by simp at e⟩
  | x :: xs, y :: ys, r, h => by
    simp only [eqL] at h
    cases e1 : f x y with
    | no =>
      rw [e1] at h
      cases h
    | exc c =>
      rw [e1] at h
      cases h
    | ok b =>
      cases e2 : eqL f xs ys with
      | no =>
        rw [e1, e2] at h
        cases h
      | exc c =>
        rw [e1, e2] at h
        cases h
      | ok c =>
        rw [e1, e2] at h
        have h : Res.ok (b && c) = Res.ok r := h
        injection h with h
        obtain ⟨i1, i2⟩ := eqL_at e2
        refine ⟨?_, fun j x' y' h1 h2 => ?_⟩
        · rw [← h, ← i1]
          have m : min (x :: xs).length (y :: ys).length = min xs.length ys.length + 1 := by
            simp only [List.length_cons]
            omega
          have l : ((x :: xs).length == (y :: ys).length) = (xs.length == ys.length) := by simp
          have g : getB (f ((x :: xs).getD 0 Dat.non) ((y :: ys).getD 0 Dat.non)) = b := by
            show getB (f x y) = b
            rw [e1]
            rfl
          rw [m, l, List.range_succ_eq_map, List.all_cons, List.all_map, g, Bool.and_assoc]
          rfl
        · cases j with
          | zero =>
            simp at h1 h2
            subst h1
            subst h2
            exact ⟨b, e1⟩
          | succ j => exact i2 j x' y' (by simpa using h1) (by simpa using h2)

/-- how a value lies that shows such a view -/
def VwAt (G : Glo) (H : Hp) (s : Shared) (u : Value) : Vw → Prop
  | .non => u = .none
  | .bl b => u = .bool b
  | .int i => ∃ t, u = .int i t
  | .str x => ∃ t, u = .str (mkS x) t
  | .seq false xs => ∃ l items vs fp, u = .ref l ∧ s.heap.IsList l items ∧ Vals vs items.toList ∧ RepL G H xs vs fp
  | .seq true xs => ∃ l items vs fp, u = .ref l ∧ s.heap.IsTuple l items ∧ Vals vs items.toList ∧ RepL G H xs vs fp
  | .oth => True
section
variable {X : Cx} {pins : List (Addr × Obj)} {σ : L2.St} {H : Hp} {s : Shared}
theorem Rep.seqL {G : Glo} {H : Hp} {d : Dat} {v : V} {fp : List Addr} {xs : List Dat} (r : Rep G H d v fp) (h : vw d = .seq false xs) : ∃ a vs f, v = .ref a ∧ SqL G.K H a vs ∧ RepL G H xs vs f ∧ ∀ b ∈ f, b ∈ fp := by
  cases d <;> simp only [vw] at h <;> cases h
  · simp only [Rep] at r
    obtain ⟨a, vs, f, e, q, rr, ef⟩ := r
    exact ⟨a, vs, f, e, .inl (.inl q), rr, fun b hb => by simp [ef, hb]⟩
  · simp only [Rep] at r
    obtain ⟨a, vs, e, q, rr⟩ := r
    refine ⟨a, vs, fp, e, ?_, rr, fun b hb => hb⟩
    rcases q with ⟨o, q⟩ | q
    · exact .inl (.inr ⟨o, q⟩)
    · exact .inr q
theorem Rep.seqT {G : Glo} {H : Hp} {d : Dat} {v : V} {fp : List Addr} {xs : List Dat} (r : Rep G H d v fp) (h : vw d = .seq true xs) : ∃ a vs, v = .ref a ∧ SqT G.K H a vs ∧ RepL G H xs vs fp := by
  cases d <;> simp only [vw] at h <;> cases h
  simp only [Rep] at r
  obtain ⟨a, vs, e, q, rr⟩ := r
  exact ⟨a, vs, e, q, rr⟩
theorem vwAt (I : Inv X pins σ H s) {d : Dat} {v : V} {u : Value} {fp : List Addr} (r : Rep (glo X) H d v fp) (rv : RelV v u) : VwAt (glo X) H s u (vw d) := by
  cases e : vw d with
  | oth => trivial
  | non =>
    cases d <;> simp only [vw] at e <;> cases e
    simp only [Rep] at r
    rw [r.1] at rv
    exact rv
  | bl b =>
    cases d <;> simp only [vw] at e <;> cases e
    simp only [Rep] at r
    rw [r.1] at rv
    exact rv
  | int i =>
    cases d <;> simp only [vw] at e <;> cases e
    simp only [Rep] at r
    rw [r.1] at rv
    exact rv
  | str x =>
    cases d <;> simp only [vw] at e <;> cases e
    simp only [Rep] at r
    rw [r.1] at rv
    exact rv
  | seq t xs =>
    cases t with
    | false =>
      obtain ⟨a, vs, f, ev, q, rr, _⟩ := r.seqL e
      subst ev
      obtain rfl : u = Value.ref a := rv
      obtain ⟨its, rl, hp, _⟩ := I.list q
      exact ⟨a, its.toArray, vs, f, rfl, hp.isList, by simpa using rl, rr⟩
    | true =>
      obtain ⟨a, vs, ev, q, rr⟩ := r.seqT e
      subst ev
      obtain rfl : u = Value.ref a := rv
      obtain ⟨its, rl, hp, _⟩ := I.tuple q
      exact ⟨a, its.toArray, vs, fp, rfl, hp, by simpa using rl, rr⟩
def vt : Value → Nat
  | .none => 0
  | .bool _ => 1
  | .int _ _ => 2
  | .str _ _ => 3
  | .ref _ => 4
  | _ => 9
def wt : Vw → Nat
  | .non => 0
  | .bl _ => 1
  | .int _ => 2
  | .str _ => 3
  | .seq _ _ => 4
  | .oth => 8
theorem VwAt.tg {G : Glo} {H : Hp} {s : Shared} {u : Value} : ∀ {w : Vw}, VwAt G H s u w → wt w ≠ 8 → vt u = wt w
  | .non, h, _ => by
    cases h
    rfl
  | .bl _, h, _ => by
    cases h
    rfl
  | .int _, h, _ => by
    obtain ⟨t, h⟩ := h
    subst h
    rfl
  | .str _, h, _ => by
    obtain ⟨t, h⟩ := h
    subst h
    rfl
  | .seq false _, h, _ => by
    obtain ⟨l, _, _, _, h, _⟩ := h
    subst h
    rfl
  | .seq true _, h, _ => by
    obtain ⟨l, _, _, _, h, _⟩ := h
    subst h
    rfl
  | .oth, _, h => absurd rfl h
theorem VwAt.two {G : Glo} {H : Hp} {s : Shared} {u : Value} {w w' : Vw} (h : VwAt G H s u w) (h' : VwAt G H s u w') (n : wt w ≠ 8) (n' : wt w' ≠ 8) : wt w = wt w' := (h.tg n).symm.trans (h'.tg n')
theorem seqD_ok {n : Nat} {a b : Dat} {t u : Bool} {xs ys : List Dat} {r : Bool} (ha : vw a = .seq t xs) (hb : vw b = .seq u ys) (h : eqD (n + 1) a b = .ok r) :
    (t = u ∧ eqL (eqD n) xs ys = .ok r) ∨ (t ≠ u ∧ r = false) := by
  simp only [eqD, ha, hb] at h
  by_cases e : t = u
  · rw [if_pos e] at h
    exact .inl ⟨e, h⟩
  · rw [if_neg e] at h
    injection h with h
    exact .inr ⟨e, h.symm⟩
/-- one value, two data: they are equal -/
theorem eqD_same (I : Inv X pins σ H s) : ∀ (n : Nat) (a b : Dat) (v w : V) (u : Value) (f g : List Addr) (r : Bool), Rep (glo X) H a v f → Rep (glo X) H b w g → RelV v u → RelV w u → eqD n a b = .ok r → r = true
  | 0, _, _, _, _, _, _, _, _, _, _, _, _, h => by cases h
  | n + 1, a, b, v, w, u, f, g, r, ra, rb, rv, rw', h => by
    have A := vwAt I ra rv
    have B := vwAt I rb rw'
    have L : ∀ (xs ys : List Dat) (vs ws : List V) (us : List Value) (f g : List Addr) (r : Bool), RepL (glo X) H xs vs f → RepL (glo X) H ys ws g → Vals vs us → Vals ws us → eqL (eqD n) xs ys = .ok r → r = true := by
      intro xs
      induction xs with
      | nil =>
        intro ys vs ws us f g r h1 h2 h3 h4 h5
        have l1 := h1.len
        have l2 := h2.len
        have l3 := h3.length
        have l4 := h4.length
        cases ys with
        | nil =>
          simp only [eqL] at h5
          injection h5 with h5
          exact h5.symm
        | cons y ys =>
          simp only [List.length_nil, List.length_cons] at l1 l2
          omega
      | cons x xs ih =>
        intro ys vs ws us f g r h1 h2 h3 h4 h5
        cases ys with
        | nil =>
          have l1 := h1.len
          have l2 := h2.len
          have l3 := h3.length
          have l4 := h4.length
          simp only [List.length_nil, List.length_cons] at l1 l2
          omega
        | cons y ys =>
          simp only [RepL] at h1 h2
          obtain ⟨v1, vs1, f1, f1', e1, e2, r1, rr1⟩ := h1
          obtain ⟨w1, ws1, g1, g1', e3, e4, r2, rr2⟩ := h2
          subst e1
          subst e3
          cases h3 with
          | cons p ps =>
            cases h4 with
            | cons q qs =>
              simp only [eqL] at h5
              cases c1 : eqD n x y with
              | no =>
                rw [c1] at h5
                cases h5
              | exc c =>
                rw [c1] at h5
                cases h5
              | ok b1 =>
                cases c2 : eqL (eqD n) xs ys with
                | no =>
                  rw [c1, c2] at h5
                  cases h5
                | exc c =>
                  rw [c1, c2] at h5
                  cases h5
                | ok b2 =>
                  rw [c1, c2] at h5
                  have h5 : Res.ok (b1 && b2) = Res.ok r := h5
                  injection h5 with h5
                  have t1 := eqD_same I n x y v1 w1 _ f1 g1 b1 r1 r2 p q c1
                  have t2 := ih ys vs1 ws1 _ _ _ b2 rr1 rr2 ps qs c2
                  rw [← h5, t1, t2]
                  rfl
    cases ea : vw a with
    | oth =>
      simp only [eqD, ea] at h
      cases h
    | seq t xs =>
      cases eb : vw b with
      | seq t' ys =>
        rw [ea] at A
        rw [eb] at B
        rcases seqD_ok ea eb h with ⟨et, hl⟩ | ⟨nt, er⟩
        · subst et
          cases t with
          | false =>
            obtain ⟨l, its, vs, fp, q1, q2, q3, q4⟩ := A
            obtain ⟨l', its', vs', fp', p1, p2, p3, p4⟩ := B
            subst q1
            injection p1 with p1
            subst p1
            obtain ⟨o, o1, o2, m, o3⟩ := q2
            obtain ⟨o', o1', o2', m', o3'⟩ := p2
            rw [o1] at o1'
            cases o1'
            rw [o3] at o3'
            injection o3' with o3' _
            subst o3'
            exact L _ _ _ _ _ _ _ _ q4 p4 q3 p3 hl
          | true =>
            obtain ⟨l, its, vs, fp, q1, q2, q3, q4⟩ := A
            obtain ⟨l', its', vs', fp', p1, p2, p3, p4⟩ := B
            subst q1
            injection p1 with p1
            subst p1
            obtain ⟨o, o1, o2, m, o3⟩ := q2
            obtain ⟨o', o1', o2', m', o3'⟩ := p2
            rw [o1] at o1'
            cases o1'
            rw [o3] at o3'
            injection o3' with o3' _
            subst o3'
            exact L _ _ _ _ _ _ _ _ q4 p4 q3 p3 hl
        · exfalso
          cases t <;> cases t' <;> first | exact nt rfl | skip
          all_goals
            obtain ⟨l, its, vs, fp, q1, q2, q3, q4⟩ := A
            obtain ⟨l', its', vs', fp', p1, p2, p3, p4⟩ := B
            subst q1
            injection p1 with p1
            subst p1
            obtain ⟨o, o1, o2, m, o3⟩ := q2
            obtain ⟨o', o1', o2', m', o3'⟩ := p2
            rw [o1] at o1'
            cases o1'
            rw [o2] at o2'
            simp at o2'
      | oth =>
        simp only [eqD, ea, eb] at h
        cases h
      | _ =>
        exfalso
        rw [ea] at A
        rw [eb] at B
        have := A.two B (by simp [wt]) (by simp [wt])
        simp [wt] at this
    | _ =>
      rw [ea] at A
      cases eb : vw b with
      | oth =>
        simp only [eqD, ea, eb] at h
        cases h
      | seq t' ys =>
        exfalso
        rw [eb] at B
        have := A.two B (by simp [wt]) (by simp [wt])
        simp [wt] at this
      | _ =>
        rw [eb] at B
        have t2 := A.two B (by simp [wt]) (by simp [wt])
        simp only [eqD, ea, eb] at h
        injection h with h
        subst h
        first
          | rfl
          | (exfalso; simp [wt] at t2; done)
          | (simp only [VwAt] at A B; subst A; injection B with B1; subst B1; simp; done)
          | (simp only [VwAt] at A B; obtain ⟨_, A⟩ := A; subst A; obtain ⟨_, B⟩ := B; injection B with B1 _; subst B1; simp; done)
          | (simp only [VwAt] at A B; obtain ⟨_, A⟩ := A; subst A; obtain ⟨_, B⟩ := B; injection B with B1 _; have := mkS_inj B1; subst this; simp; done)
theorem mkS_dec (x y : Tx) : decide (x = y) = (mkS x == mkS y) := by
  by_cases h : x = y
  · subst h
    simp
  · have : mkS x ≠ mkS y := fun e => h (mkS_inj e)
    simp [h, this]
/-- the elements of two lists, pairwise -/
theorem eqAll_at {s : Shared} {A : Around} {n : Nat} {xs ys : List Dat} {us ws : Array Value} {vs vs' : List V} {f g : List Addr} {r : Bool} {G : Glo} {H : Hp} (h : eqL (eqD n) xs ys = .ok r) (rx : RepL G H xs vs f) (ry : RepL G H ys vs' g) (vx : Vals vs us.toList) (vy : Vals vs' ws.toList)
    (E : ∀ (a b : Dat) (v w : V) (u u' : Value) (f g : List Addr) (r : Bool), Rep G H a v f → Rep G H b w g → RelV v u → RelV w u' → eqD n a b = .ok r → SeqAt.EqAt A s u u' r) :
    (us.size = xs.length) ∧ (ws.size = ys.length) ∧ ∀ j (h1 : j < us.size) (h2 : j < ws.size), SeqAt.EqAt A s us[j] ws[j] (getB (eqD n (xs.getD j .non) (ys.getD j .non))) := by
  have l1 : us.size = xs.length := by
    have a := rx.len
    have b := vx.length
    simp only [Array.length_toList] at b
    omega
  have l2 : ws.size = ys.length := by
    have a := ry.len
    have b := vy.length
    simp only [Array.length_toList] at b
    omega
  refine ⟨l1, l2, fun j h1 h2 => ?_⟩
  have ex : xs[j]? = some (xs.getD j .non) := by
    rw [List.getD_eq_getElem?_getD, List.getElem?_eq_getElem (by omega)]
    rfl
  have ey : ys[j]? = some (ys.getD j .non) := by
    rw [List.getD_eq_getElem?_getD, List.getElem?_eq_getElem (by omega)]
    rfl
  obtain ⟨b, hb⟩ := (eqL_at h).2 j _ _ ex ey
  obtain ⟨v, f1, q1, q2, _⟩ := rx.at ex
  obtain ⟨w, g1, p1, p2, _⟩ := ry.at ey
  obtain ⟨u, e1, r1⟩ := vx.get q1
  obtain ⟨u', e2, r2⟩ := vy.get p1
  have z1 : us[j] = u := by
    rw [List.getElem?_eq_getElem (by simpa using h1)] at e1
    simpa using e1
  have z2 : ws[j] = u' := by
    rw [List.getElem?_eq_getElem (by simpa using h2)] at e2
    simpa using e2
  rw [hb, z1, z2]
  exact E _ _ _ _ _ _ _ _ b q2 p2 r1 r2 hb
theorem lens {xs ys : List Dat} {n : Nat} {r : Bool} (h : eqL (eqD n) xs ys = .ok r) (e : xs.length ≠ ys.length) : r = false := by
  have := (eqL_at h).1
  rw [← this]
  simp [e]
theorem allr {xs ys : List Dat} {n : Nat} {r : Bool} (h : eqL (eqD n) xs ys = .ok r) (e : xs.length = ys.length) : (List.range xs.length).all (fun j => getB (eqD n (xs.getD j .non) (ys.getD j .non))) = r := by
  have := (eqL_at h).1
  rw [← this, e]
  simp
theorem rcAt_of {A : Around} {n : Nat} (I : Inv X pins σ H s) (hu : A.units < cLine)
    (E : ∀ (a b : Dat) (v w : V) (u u' : Value) (f g : List Addr) (r : Bool), Rep (glo X) H a v f → Rep (glo X) H b w g → RelV v u → RelV w u' → eqD n a b = .ok r → SeqAt.EqAt A.in1 s u u' r)
    {a b : Dat} {v w : V} {u u' : Value} {f g : List Addr} {r : Bool} (ra : Rep (glo X) H a v f) (rb : Rep (glo X) H b w g) (rv : RelV v u) (rw' : RelV w u') (h : eqD (n + 1) a b = .ok r) : SeqAt.RcAt A s u u' r := by
  have P := vwAt I ra rv
  have Q := vwAt I rb rw'
  cases ea : vw a with
  | oth =>
    simp only [eqD, ea] at h
    cases h
  | seq t xs =>
    rw [ea] at P
    cases eb : vw b with
    | oth =>
      simp only [eqD, ea, eb] at h
      cases h
    | seq t' ys =>
      rw [eb] at Q
      rcases seqD_ok ea eb h with ⟨et, hl⟩ | ⟨nt, er⟩
      · subst et
        cases t with
        | false =>
          obtain ⟨l, its, vs, fp, q1, q2, q3, q4⟩ := P
          obtain ⟨l', its', vs', fp', p1, p2, p3, p4⟩ := Q
          subst q1
          subst p1
          obtain ⟨z1, z2, z3⟩ := eqAll_at hl q4 p4 q3 p3 E
          by_cases e : xs.length = ys.length
          · rw [← allr hl e, ← z1]
            exact SeqAt.RcAt.lists q2 p2 (by omega) hu z3
          · rw [lens hl e]
            exact SeqAt.RcAt.lists_lengths q2 p2 (by simp; omega) hu
        | true =>
          obtain ⟨l, its, vs, fp, q1, q2, q3, q4⟩ := P
          obtain ⟨l', its', vs', fp', p1, p2, p3, p4⟩ := Q
          subst q1
          subst p1
          obtain ⟨z1, z2, z3⟩ := eqAll_at hl q4 p4 q3 p3 E
          rw [← (eqL_at hl).1, ← z1, ← z2]
          exact SeqAt.RcAt.tuples q2 p2 hu z3
      · subst er
        cases t <;> cases t' <;> first | exact absurd rfl nt | skip
        · obtain ⟨l, its, vs, fp, q1, q2, q3, q4⟩ := P
          obtain ⟨l', its', vs', fp', p1, p2, p3, p4⟩ := Q
          subst q1
          subst p1
          exact SeqAt.RcAt.list_tuple q2 p2 hu
        · obtain ⟨l, its, vs, fp, q1, q2, q3, q4⟩ := P
          obtain ⟨l', its', vs', fp', p1, p2, p3, p4⟩ := Q
          subst q1
          subst p1
          exact SeqAt.RcAt.tuple_list q2 p2 hu
    | non =>
      rw [eb] at Q
      simp only [eqD, ea, eb] at h
      injection h with h
      subst h
      simp only [VwAt] at Q
      subst Q
      cases t
      · obtain ⟨l, its, vs, fp, q1, q2, q3, q4⟩ := P
        subst q1
        exact SeqAt.RcAt.list_none q2 hu
      · obtain ⟨l, its, vs, fp, q1, q2, q3, q4⟩ := P
        subst q1
        exact SeqAt.RcAt.tuple_none q2 hu
    | bl p =>
      rw [eb] at Q
      simp only [eqD, ea, eb] at h
      injection h with h
      subst h
      simp only [VwAt] at Q
      subst Q
      cases t
      · obtain ⟨l, its, vs, fp, q1, q2, q3, q4⟩ := P
        subst q1
        exact SeqAt.RcAt.list_bool _ q2 hu
      · obtain ⟨l, its, vs, fp, q1, q2, q3, q4⟩ := P
        subst q1
        exact SeqAt.RcAt.tuple_bool _ q2 hu
    | int p =>
      rw [eb] at Q
      simp only [eqD, ea, eb] at h
      injection h with h
      subst h
      simp only [VwAt] at Q
      obtain ⟨_, Q⟩ := Q
      subst Q
      cases t
      · obtain ⟨l, its, vs, fp, q1, q2, q3, q4⟩ := P
        subst q1
        exact SeqAt.RcAt.list_int _ _ q2 hu
      · obtain ⟨l, its, vs, fp, q1, q2, q3, q4⟩ := P
        subst q1
        exact SeqAt.RcAt.tuple_int _ _ q2 hu
    | str p =>
      rw [eb] at Q
      simp only [eqD, ea, eb] at h
      injection h with h
      subst h
      simp only [VwAt] at Q
      obtain ⟨_, Q⟩ := Q
      subst Q
      cases t
      · obtain ⟨l, its, vs, fp, q1, q2, q3, q4⟩ := P
        subst q1
        exact SeqAt.RcAt.list_str _ _ q2 hu
      · obtain ⟨l, its, vs, fp, q1, q2, q3, q4⟩ := P
        subst q1
        exact SeqAt.RcAt.tuple_str _ _ q2 hu
  | non =>
    rw [ea] at P
    simp only [VwAt] at P
    subst P
    cases eb : vw b with
    | oth =>
      simp only [eqD, ea, eb] at h
      cases h
    | seq t ys =>
      rw [eb] at Q
      simp only [eqD, ea, eb] at h
      injection h with h
      subst h
      cases t
      · obtain ⟨l, its, vs, fp, q1, q2, q3, q4⟩ := Q
        subst q1
        exact SeqAt.RcAt.none_list q2 hu
      · obtain ⟨l, its, vs, fp, q1, q2, q3, q4⟩ := Q
        subst q1
        exact SeqAt.RcAt.none_tuple q2 hu
    | non =>
      rw [eb] at Q
      simp only [eqD, ea, eb] at h
      injection h with h
      subst h
      simp only [VwAt] at Q
      subst Q
      exact SeqAt.RcAt.none_none
    | bl q =>
      rw [eb] at Q
      simp only [eqD, ea, eb] at h
      injection h with h
      subst h
      simp only [VwAt] at Q
      subst Q
      exact SeqAt.RcAt.none_bool _
    | int q =>
      rw [eb] at Q
      simp only [eqD, ea, eb] at h
      injection h with h
      subst h
      simp only [VwAt] at Q
      obtain ⟨_, Q⟩ := Q
      subst Q
      exact SeqAt.RcAt.none_int _ _
    | str q =>
      rw [eb] at Q
      simp only [eqD, ea, eb] at h
      injection h with h
      subst h
      simp only [VwAt] at Q
      obtain ⟨_, Q⟩ := Q
      subst Q
      exact SeqAt.RcAt.none_str _ _
  | bl p =>
    rw [ea] at P
    simp only [VwAt] at P
    subst P
    cases eb : vw b with
    | oth =>
      simp only [eqD, ea, eb] at h
      cases h
    | seq t ys =>
      rw [eb] at Q
      simp only [eqD, ea, eb] at h
      injection h with h
      subst h
      cases t
      · obtain ⟨l, its, vs, fp, q1, q2, q3, q4⟩ := Q
        subst q1
        exact SeqAt.RcAt.bool_list _ q2 hu
      · obtain ⟨l, its, vs, fp, q1, q2, q3, q4⟩ := Q
        subst q1
        exact SeqAt.RcAt.bool_tuple _ q2 hu
    | non =>
      rw [eb] at Q
      simp only [eqD, ea, eb] at h
      injection h with h
      subst h
      simp only [VwAt] at Q
      subst Q
      exact SeqAt.RcAt.bool_none _
    | bl q =>
      rw [eb] at Q
      simp only [eqD, ea, eb] at h
      injection h with h
      subst h
      simp only [VwAt] at Q
      subst Q
      exact SeqAt.RcAt.bool_bool _ _
    | int q =>
      rw [eb] at Q
      simp only [eqD, ea, eb] at h
      injection h with h
      subst h
      simp only [VwAt] at Q
      obtain ⟨_, Q⟩ := Q
      subst Q
      exact SeqAt.RcAt.bool_int _ _ _
    | str q =>
      rw [eb] at Q
      simp only [eqD, ea, eb] at h
      injection h with h
      subst h
      simp only [VwAt] at Q
      obtain ⟨_, Q⟩ := Q
      subst Q
      exact SeqAt.RcAt.bool_str _ _ _
  | int p =>
    rw [ea] at P
    simp only [VwAt] at P
    obtain ⟨_, P⟩ := P
    subst P
    cases eb : vw b with
    | oth =>
      simp only [eqD, ea, eb] at h
      cases h
    | seq t ys =>
      rw [eb] at Q
      simp only [eqD, ea, eb] at h
      injection h with h
      subst h
      cases t
      · obtain ⟨l, its, vs, fp, q1, q2, q3, q4⟩ := Q
        subst q1
        exact SeqAt.RcAt.int_list _ _ q2 hu
      · obtain ⟨l, its, vs, fp, q1, q2, q3, q4⟩ := Q
        subst q1
        exact SeqAt.RcAt.int_tuple _ _ q2 hu
    | non =>
      rw [eb] at Q
      simp only [eqD, ea, eb] at h
      injection h with h
      subst h
      simp only [VwAt] at Q
      subst Q
      exact SeqAt.RcAt.int_none _ _
    | bl q =>
      rw [eb] at Q
      simp only [eqD, ea, eb] at h
      injection h with h
      subst h
      simp only [VwAt] at Q
      subst Q
      exact SeqAt.RcAt.int_bool _ _ _
    | int q =>
      rw [eb] at Q
      simp only [eqD, ea, eb] at h
      injection h with h
      subst h
      simp only [VwAt] at Q
      obtain ⟨_, Q⟩ := Q
      subst Q
      exact SeqAt.RcAt.int_int _ _ _ _
    | str q =>
      rw [eb] at Q
      simp only [eqD, ea, eb] at h
      injection h with h
      subst h
      simp only [VwAt] at Q
      obtain ⟨_, Q⟩ := Q
      subst Q
      exact SeqAt.RcAt.int_str _ _ _ _
  | str p =>
    rw [ea] at P
    simp only [VwAt] at P
    obtain ⟨_, P⟩ := P
    subst P
    cases eb : vw b with
    | oth =>
      simp only [eqD, ea, eb] at h
      cases h
    | seq t ys =>
      rw [eb] at Q
      simp only [eqD, ea, eb] at h
      injection h with h
      subst h
      cases t
      · obtain ⟨l, its, vs, fp, q1, q2, q3, q4⟩ := Q
        subst q1
        exact SeqAt.RcAt.str_list _ _ q2 hu
      · obtain ⟨l, its, vs, fp, q1, q2, q3, q4⟩ := Q
        subst q1
        exact SeqAt.RcAt.str_tuple _ _ q2 hu
    | non =>
      rw [eb] at Q
      simp only [eqD, ea, eb] at h
      injection h with h
      subst h
      simp only [VwAt] at Q
      subst Q
      exact SeqAt.RcAt.str_none _ _
    | bl q =>
      rw [eb] at Q
      simp only [eqD, ea, eb] at h
      injection h with h
      subst h
      simp only [VwAt] at Q
      subst Q
      exact SeqAt.RcAt.str_bool _ _ _
    | int q =>
      rw [eb] at Q
      simp only [eqD, ea, eb] at h
      injection h with h
      subst h
      simp only [VwAt] at Q
      obtain ⟨_, Q⟩ := Q
      subst Q
      exact SeqAt.RcAt.str_int _ _ _ _
    | str q =>
      rw [eb] at Q
      simp only [eqD, ea, eb] at h
      injection h with h
      subst h
      simp only [VwAt] at Q
      obtain ⟨_, Q⟩ := Q
      subst Q
      rw [mkS_dec]
      exact SeqAt.RcAt.str_str _ _ _ _
theorem rcNeAt_of {A : Around} {n : Nat} (I : Inv X pins σ H s) (hu : A.units < cLine)
    (E : ∀ (a b : Dat) (v w : V) (u u' : Value) (f g : List Addr) (r : Bool), Rep (glo X) H a v f → Rep (glo X) H b w g → RelV v u → RelV w u' → eqD n a b = .ok r → SeqAt.EqAt A.in1 s u u' r)
    {a b : Dat} {v w : V} {u u' : Value} {f g : List Addr} {r : Bool} (ra : Rep (glo X) H a v f) (rb : Rep (glo X) H b w g) (rv : RelV v u) (rw' : RelV w u') (h : eqD (n + 1) a b = .ok r) : SeqAt.RcNeAt A s u u' (!r) := by
  have P := vwAt I ra rv
  have Q := vwAt I rb rw'
  cases ea : vw a with
  | oth =>
    simp only [eqD, ea] at h
    cases h
  | seq t xs =>
    rw [ea] at P
    cases eb : vw b with
    | oth =>
      simp only [eqD, ea, eb] at h
      cases h
    | seq t' ys =>
      rw [eb] at Q
      rcases seqD_ok ea eb h with ⟨et, hl⟩ | ⟨nt, er⟩
      · subst et
        cases t with
        | false =>
          obtain ⟨l, its, vs, fp, q1, q2, q3, q4⟩ := P
          obtain ⟨l', its', vs', fp', p1, p2, p3, p4⟩ := Q
          subst q1
          subst p1
          obtain ⟨z1, z2, z3⟩ := eqAll_at hl q4 p4 q3 p3 E
          by_cases e : xs.length = ys.length
          · rw [← allr hl e, ← z1]
            exact SeqAt.RcNeAt.lists q2 p2 (by omega) hu z3
          · rw [lens hl e]
            exact SeqAt.RcNeAt.lists_lengths q2 p2 (by simp; omega) hu
        | true =>
          obtain ⟨l, its, vs, fp, q1, q2, q3, q4⟩ := P
          obtain ⟨l', its', vs', fp', p1, p2, p3, p4⟩ := Q
          subst q1
          subst p1
          obtain ⟨z1, z2, z3⟩ := eqAll_at hl q4 p4 q3 p3 E
          rw [← (eqL_at hl).1, ← z1, ← z2]
          exact SeqAt.RcNeAt.tuples q2 p2 hu z3
      · subst er
        cases t <;> cases t' <;> first | exact absurd rfl nt | skip
        · obtain ⟨l, its, vs, fp, q1, q2, q3, q4⟩ := P
          obtain ⟨l', its', vs', fp', p1, p2, p3, p4⟩ := Q
          subst q1
          subst p1
          exact SeqAt.RcNeAt.list_tuple q2 p2 hu
        · obtain ⟨l, its, vs, fp, q1, q2, q3, q4⟩ := P
          obtain ⟨l', its', vs', fp', p1, p2, p3, p4⟩ := Q
          subst q1
          subst p1
          exact SeqAt.RcNeAt.tuple_list q2 p2 hu
    | non =>
      rw [eb] at Q
      simp only [eqD, ea, eb] at h
      injection h with h
      subst h
      simp only [VwAt] at Q
      subst Q
      cases t
      · obtain ⟨l, its, vs, fp, q1, q2, q3, q4⟩ := P
        subst q1
        exact SeqAt.RcNeAt.list_none q2 hu
      · obtain ⟨l, its, vs, fp, q1, q2, q3, q4⟩ := P
        subst q1
        exact SeqAt.RcNeAt.tuple_none q2 hu
    | bl p =>
      rw [eb] at Q
      simp only [eqD, ea, eb] at h
      injection h with h
      subst h
      simp only [VwAt] at Q
      subst Q
      cases t
      · obtain ⟨l, its, vs, fp, q1, q2, q3, q4⟩ := P
        subst q1
        exact SeqAt.RcNeAt.list_bool _ q2 hu
      · obtain ⟨l, its, vs, fp, q1, q2, q3, q4⟩ := P
        subst q1
        exact SeqAt.RcNeAt.tuple_bool _ q2 hu
    | int p =>
      rw [eb] at Q
      simp only [eqD, ea, eb] at h
      injection h with h
      subst h
      simp only [VwAt] at Q
      obtain ⟨_, Q⟩ := Q
      subst Q
      cases t
      · obtain ⟨l, its, vs, fp, q1, q2, q3, q4⟩ := P
        subst q1
        exact SeqAt.RcNeAt.list_int _ _ q2 hu
      · obtain ⟨l, its, vs, fp, q1, q2, q3, q4⟩ := P
        subst q1
        exact SeqAt.RcNeAt.tuple_int _ _ q2 hu
    | str p =>
      rw [eb] at Q
      simp only [eqD, ea, eb] at h
      injection h with h
      subst h
      simp only [VwAt] at Q
      obtain ⟨_, Q⟩ := Q
      subst Q
      cases t
      · obtain ⟨l, its, vs, fp, q1, q2, q3, q4⟩ := P
        subst q1
        exact SeqAt.RcNeAt.list_str _ _ q2 hu
      · obtain ⟨l, its, vs, fp, q1, q2, q3, q4⟩ := P
        subst q1
        exact SeqAt.RcNeAt.tuple_str _ _ q2 hu
  | non =>
    rw [ea] at P
    simp only [VwAt] at P
    subst P
    cases eb : vw b with
    | oth =>
      simp only [eqD, ea, eb] at h
      cases h
    | seq t ys =>
      rw [eb] at Q
      simp only [eqD, ea, eb] at h
      injection h with h
      subst h
      cases t
      · obtain ⟨l, its, vs, fp, q1, q2, q3, q4⟩ := Q
        subst q1
        exact SeqAt.RcNeAt.none_list q2 hu
      · obtain ⟨l, its, vs, fp, q1, q2, q3, q4⟩ := Q
        subst q1
        exact SeqAt.RcNeAt.none_tuple q2 hu
    | non =>
      rw [eb] at Q
      simp only [eqD, ea, eb] at h
      injection h with h
      subst h
      simp only [VwAt] at Q
      subst Q
      exact SeqAt.RcNeAt.none_none
    | bl q =>
      rw [eb] at Q
      simp only [eqD, ea, eb] at h
      injection h with h
      subst h
      simp only [VwAt] at Q
      subst Q
      exact SeqAt.RcNeAt.none_bool _
    | int q =>
      rw [eb] at Q
      simp only [eqD, ea, eb] at h
      injection h with h
      subst h
      simp only [VwAt] at Q
      obtain ⟨_, Q⟩ := Q
      subst Q
      exact SeqAt.RcNeAt.none_int _ _
    | str q =>
      rw [eb] at Q
      simp only [eqD, ea, eb] at h
      injection h with h
      subst h
      simp only [VwAt] at Q
      obtain ⟨_, Q⟩ := Q
      subst Q
      exact SeqAt.RcNeAt.none_str _ _
  | bl p =>
    rw [ea] at P
    simp only [VwAt] at P
    subst P
    cases eb : vw b with
    | oth =>
      simp only [eqD, ea, eb] at h
      cases h
    | seq t ys =>
      rw [eb] at Q
      simp only [eqD, ea, eb] at h
      injection h with h
      subst h
      cases t
      · obtain ⟨l, its, vs, fp, q1, q2, q3, q4⟩ := Q
        subst q1
        exact SeqAt.RcNeAt.bool_list _ q2 hu
      · obtain ⟨l, its, vs, fp, q1, q2, q3, q4⟩ := Q
        subst q1
        exact SeqAt.RcNeAt.bool_tuple _ q2 hu
    | non =>
      rw [eb] at Q
      simp only [eqD, ea, eb] at h
      injection h with h
      subst h
      simp only [VwAt] at Q
      subst Q
      exact SeqAt.RcNeAt.bool_none _
    | bl q =>
      rw [eb] at Q
      simp only [eqD, ea, eb] at h
      injection h with h
      subst h
      simp only [VwAt] at Q
      subst Q
      exact SeqAt.RcNeAt.bool_bool _ _
    | int q =>
      rw [eb] at Q
      simp only [eqD, ea, eb] at h
      injection h with h
      subst h
      simp only [VwAt] at Q
      obtain ⟨_, Q⟩ := Q
      subst Q
      exact SeqAt.RcNeAt.bool_int _ _ _
    | str q =>
      rw [eb] at Q
      simp only [eqD, ea, eb] at h
      injection h with h
      subst h
      simp only [VwAt] at Q
      obtain ⟨_, Q⟩ := Q
      subst Q
      exact SeqAt.RcNeAt.bool_str _ _ _
  | int p =>
    rw [ea] at P
    simp only [VwAt] at P
    obtain ⟨_, P⟩ := P
    subst P
    cases eb : vw b with
    | oth =>
      simp only [eqD, ea, eb] at h
      cases h
    | seq t ys =>
      rw [eb] at Q
      simp only [eqD, ea, eb] at h
      injection h with h
      subst h
      cases t
      · obtain ⟨l, its, vs, fp, q1, q2, q3, q4⟩ := Q
        subst q1
        exact SeqAt.RcNeAt.int_list _ _ q2 hu
      · obtain ⟨l, its, vs, fp, q1, q2, q3, q4⟩ := Q
        subst q1
        exact SeqAt.RcNeAt.int_tuple _ _ q2 hu
    | non =>
      rw [eb] at Q
      simp only [eqD, ea, eb] at h
      injection h with h
      subst h
      simp only [VwAt] at Q
      subst Q
      exact SeqAt.RcNeAt.int_none _ _
    | bl q =>
      rw [eb] at Q
      simp only [eqD, ea, eb] at h
      injection h with h
      subst h
      simp only [VwAt] at Q
      subst Q
      exact SeqAt.RcNeAt.int_bool _ _ _
    | int q =>
      rw [eb] at Q
      simp only [eqD, ea, eb] at h
      injection h with h
      subst h
      simp only [VwAt] at Q
      obtain ⟨_, Q⟩ := Q
      subst Q
      exact SeqAt.RcNeAt.int_int _ _ _ _
    | str q =>
      rw [eb] at Q
      simp only [eqD, ea, eb] at h
      injection h with h
      subst h
      simp only [VwAt] at Q
      obtain ⟨_, Q⟩ := Q
      subst Q
      exact SeqAt.RcNeAt.int_str _ _ _ _
  | str p =>
    rw [ea] at P
    simp only [VwAt] at P
    obtain ⟨_, P⟩ := P
    subst P
    cases eb : vw b with
    | oth =>
      simp only [eqD, ea, eb] at h
      cases h
    | seq t ys =>
      rw [eb] at Q
      simp only [eqD, ea, eb] at h
      injection h with h
      subst h
      cases t
      · obtain ⟨l, its, vs, fp, q1, q2, q3, q4⟩ := Q
        subst q1
        exact SeqAt.RcNeAt.str_list _ _ q2 hu
      · obtain ⟨l, its, vs, fp, q1, q2, q3, q4⟩ := Q
        subst q1
        exact SeqAt.RcNeAt.str_tuple _ _ q2 hu
    | non =>
      rw [eb] at Q
      simp only [eqD, ea, eb] at h
      injection h with h
      subst h
      simp only [VwAt] at Q
      subst Q
      exact SeqAt.RcNeAt.str_none _ _
    | bl q =>
      rw [eb] at Q
      simp only [eqD, ea, eb] at h
      injection h with h
      subst h
      simp only [VwAt] at Q
      subst Q
      exact SeqAt.RcNeAt.str_bool _ _ _
    | int q =>
      rw [eb] at Q
      simp only [eqD, ea, eb] at h
      injection h with h
      subst h
      simp only [VwAt] at Q
      obtain ⟨_, Q⟩ := Q
      subst Q
      exact SeqAt.RcNeAt.str_int _ _ _ _
    | str q =>
      rw [eb] at Q
      simp only [eqD, ea, eb] at h
      injection h with h
      subst h
      simp only [VwAt] at Q
      obtain ⟨_, Q⟩ := Q
      subst Q
      rw [mkS_dec]
      exact SeqAt.RcNeAt.str_str _ _ _ _
/-- as a truth of two values in hand -/
theorem eqAt_of (I : Inv X pins σ H s) : ∀ (n : Nat) (A : Around) (a b : Dat) (v w : V) (u u' : Value) (f g : List Addr) (r : Bool), A.units + n < cLine → Rep (glo X) H a v f → Rep (glo X) H b w g → RelV v u → RelV w u' → eqD n a b = .ok r → SeqAt.EqAt A s u u' r
  | 0, _, _, _, _, _, _, _, _, _, _, _, _, _, _, _, h => by cases h
  | n + 1, A, a, b, v, w, u, u', f, g, r, hu0, ra, rb, rv, rw', h => by
    have hu : A.units < cLine := by omega
    have P := vwAt I ra rv
    have Q := vwAt I rb rw'
    cases ea : vw a with
    | oth =>
      simp only [eqD, ea] at h
      cases h
    | seq t xs =>
      rw [ea] at P
      cases eb : vw b with
      | oth =>
        simp only [eqD, ea, eb] at h
        cases h
      | seq t' ys =>
        rw [eb] at Q
        have R := rcAt_of (A := A) I hu (fun a b v w u u' f g r ra rb rv rw' h => eqAt_of I n A.in1 a b v w u u' f g r (by show A.units + 1 + n < cLine; omega) ra rb rv rw' h) ra rb rv rw' h
        obtain ⟨l, e1⟩ : ∃ l, u = .ref l := by
          cases t
          · obtain ⟨l, _, _, _, q1, _⟩ := P
            exact ⟨l, q1⟩
          · obtain ⟨l, _, _, _, q1, _⟩ := P
            exact ⟨l, q1⟩
        obtain ⟨l', e2⟩ : ∃ l, u' = .ref l := by
          cases t'
          · obtain ⟨l, _, _, _, q1, _⟩ := Q
            exact ⟨l, q1⟩
          · obtain ⟨l, _, _, _, q1, _⟩ := Q
            exact ⟨l, q1⟩
        subst e1
        subst e2
        by_cases e : l = l'
        · subst e
          rw [eqD_same I (n + 1) a b v w (.ref l) f g r ra rb rv rw' h]
          exact SeqAt.EqAt.same _
        · exact SeqAt.EqAt.of_refs e R
      | non =>
        rw [eb] at Q
        simp only [eqD, ea, eb] at h
        injection h with h
        subst h
        simp only [VwAt] at Q
        subst Q
        cases t
        · obtain ⟨l, its, vs, fp, q1, q2, q3, q4⟩ := P
          subst q1
          exact SeqAt.EqAt.list_none q2 hu
        · obtain ⟨l, its, vs, fp, q1, q2, q3, q4⟩ := P
          subst q1
          exact SeqAt.EqAt.tuple_none q2 hu
      | bl p =>
        rw [eb] at Q
        simp only [eqD, ea, eb] at h
        injection h with h
        subst h
        simp only [VwAt] at Q
        subst Q
        cases t
        · obtain ⟨l, its, vs, fp, q1, q2, q3, q4⟩ := P
          subst q1
          exact SeqAt.EqAt.list_bool _ q2 hu
        · obtain ⟨l, its, vs, fp, q1, q2, q3, q4⟩ := P
          subst q1
          exact SeqAt.EqAt.tuple_bool _ q2 hu
      | int p =>
        rw [eb] at Q
        simp only [eqD, ea, eb] at h
        injection h with h
        subst h
        simp only [VwAt] at Q
        obtain ⟨_, Q⟩ := Q
        subst Q
        cases t
        · obtain ⟨l, its, vs, fp, q1, q2, q3, q4⟩ := P
          subst q1
          exact SeqAt.EqAt.list_int _ _ q2 hu
        · obtain ⟨l, its, vs, fp, q1, q2, q3, q4⟩ := P
          subst q1
          exact SeqAt.EqAt.tuple_int _ _ q2 hu
      | str p =>
        rw [eb] at Q
        simp only [eqD, ea, eb] at h
        injection h with h
        subst h
        simp only [VwAt] at Q
        obtain ⟨_, Q⟩ := Q
        subst Q
        cases t
        · obtain ⟨l, its, vs, fp, q1, q2, q3, q4⟩ := P
          subst q1
          exact SeqAt.EqAt.list_str _ _ q2 hu
        · obtain ⟨l, its, vs, fp, q1, q2, q3, q4⟩ := P
          subst q1
          exact SeqAt.EqAt.tuple_str _ _ q2 hu
    | non =>
      rw [ea] at P
      simp only [VwAt] at P
      subst P
      cases eb : vw b with
      | oth =>
        simp only [eqD, ea, eb] at h
        cases h
      | seq t ys =>
        rw [eb] at Q
        simp only [eqD, ea, eb] at h
        injection h with h
        subst h
        cases t
        · obtain ⟨l, its, vs, fp, q1, q2, q3, q4⟩ := Q
          subst q1
          exact SeqAt.EqAt.none_list q2 hu
        · obtain ⟨l, its, vs, fp, q1, q2, q3, q4⟩ := Q
          subst q1
          exact SeqAt.EqAt.none_tuple q2 hu
      | non =>
        rw [eb] at Q
        simp only [eqD, ea, eb] at h
        injection h with h
        subst h
        simp only [VwAt] at Q
        subst Q
        exact SeqAt.EqAt.same _
      | bl q =>
        rw [eb] at Q
        simp only [eqD, ea, eb] at h
        injection h with h
        subst h
        simp only [VwAt] at Q
        subst Q
        exact SeqAt.EqAt.none_bool _
      | int q =>
        rw [eb] at Q
        simp only [eqD, ea, eb] at h
        injection h with h
        subst h
        simp only [VwAt] at Q
        obtain ⟨_, Q⟩ := Q
        subst Q
        exact SeqAt.EqAt.none_int _ _
      | str q =>
        rw [eb] at Q
        simp only [eqD, ea, eb] at h
        injection h with h
        subst h
        simp only [VwAt] at Q
        obtain ⟨_, Q⟩ := Q
        subst Q
        exact SeqAt.EqAt.none_str _ _
    | bl p =>
      rw [ea] at P
      simp only [VwAt] at P
      subst P
      cases eb : vw b with
      | oth =>
        simp only [eqD, ea, eb] at h
        cases h
      | seq t ys =>
        rw [eb] at Q
        simp only [eqD, ea, eb] at h
        injection h with h
        subst h
        cases t
        · obtain ⟨l, its, vs, fp, q1, q2, q3, q4⟩ := Q
          subst q1
          exact SeqAt.EqAt.bool_list _ q2 hu
        · obtain ⟨l, its, vs, fp, q1, q2, q3, q4⟩ := Q
          subst q1
          exact SeqAt.EqAt.bool_tuple _ q2 hu
      | non =>
        rw [eb] at Q
        simp only [eqD, ea, eb] at h
        injection h with h
        subst h
        simp only [VwAt] at Q
        subst Q
        exact SeqAt.EqAt.bool_none _
      | bl q =>
        rw [eb] at Q
        simp only [eqD, ea, eb] at h
        injection h with h
        subst h
        simp only [VwAt] at Q
        subst Q
        exact SeqAt.EqAt.bool_bool _ _
      | int q =>
        rw [eb] at Q
        simp only [eqD, ea, eb] at h
        injection h with h
        subst h
        simp only [VwAt] at Q
        obtain ⟨_, Q⟩ := Q
        subst Q
        exact SeqAt.EqAt.bool_int _ _ _
      | str q =>
        rw [eb] at Q
        simp only [eqD, ea, eb] at h
        injection h with h
        subst h
        simp only [VwAt] at Q
        obtain ⟨_, Q⟩ := Q
        subst Q
        exact SeqAt.EqAt.bool_str _ _ _
    | int p =>
      rw [ea] at P
      simp only [VwAt] at P
      obtain ⟨_, P⟩ := P
      subst P
      cases eb : vw b with
      | oth =>
        simp only [eqD, ea, eb] at h
        cases h
      | seq t ys =>
        rw [eb] at Q
        simp only [eqD, ea, eb] at h
        injection h with h
        subst h
        cases t
        · obtain ⟨l, its, vs, fp, q1, q2, q3, q4⟩ := Q
          subst q1
          exact SeqAt.EqAt.int_list _ _ q2 hu
        · obtain ⟨l, its, vs, fp, q1, q2, q3, q4⟩ := Q
          subst q1
          exact SeqAt.EqAt.int_tuple _ _ q2 hu
      | non =>
        rw [eb] at Q
        simp only [eqD, ea, eb] at h
        injection h with h
        subst h
        simp only [VwAt] at Q
        subst Q
        exact SeqAt.EqAt.int_none _ _
      | bl q =>
        rw [eb] at Q
        simp only [eqD, ea, eb] at h
        injection h with h
        subst h
        simp only [VwAt] at Q
        subst Q
        exact SeqAt.EqAt.int_bool _ _ _
      | int q =>
        rw [eb] at Q
        simp only [eqD, ea, eb] at h
        injection h with h
        subst h
        simp only [VwAt] at Q
        obtain ⟨_, Q⟩ := Q
        subst Q
        exact SeqAt.EqAt.int_int _ _ _ _
      | str q =>
        rw [eb] at Q
        simp only [eqD, ea, eb] at h
        injection h with h
        subst h
        simp only [VwAt] at Q
        obtain ⟨_, Q⟩ := Q
        subst Q
        exact SeqAt.EqAt.int_str _ _ _ _
    | str p =>
      rw [ea] at P
      simp only [VwAt] at P
      obtain ⟨_, P⟩ := P
      subst P
      cases eb : vw b with
      | oth =>
        simp only [eqD, ea, eb] at h
        cases h
      | seq t ys =>
        rw [eb] at Q
        simp only [eqD, ea, eb] at h
        injection h with h
        subst h
        cases t
        · obtain ⟨l, its, vs, fp, q1, q2, q3, q4⟩ := Q
          subst q1
          exact SeqAt.EqAt.str_list _ _ q2 hu
        · obtain ⟨l, its, vs, fp, q1, q2, q3, q4⟩ := Q
          subst q1
          exact SeqAt.EqAt.str_tuple _ _ q2 hu
      | non =>
        rw [eb] at Q
        simp only [eqD, ea, eb] at h
        injection h with h
        subst h
        simp only [VwAt] at Q
        subst Q
        exact SeqAt.EqAt.str_none _ _
      | bl q =>
        rw [eb] at Q
        simp only [eqD, ea, eb] at h
        injection h with h
        subst h
        simp only [VwAt] at Q
        subst Q
        exact SeqAt.EqAt.str_bool _ _ _
      | int q =>
        rw [eb] at Q
        simp only [eqD, ea, eb] at h
        injection h with h
        subst h
        simp only [VwAt] at Q
        obtain ⟨_, Q⟩ := Q
        subst Q
        exact SeqAt.EqAt.str_int _ _ _ _
      | str q =>
        rw [eb] at Q
        simp only [eqD, ea, eb] at h
        injection h with h
        subst h
        simp only [VwAt] at Q
        obtain ⟨_, Q⟩ := Q
        subst Q
        rw [mkS_dec]
        exact SeqAt.EqAt.str_str _ _ _ _
def eqF (a b : Dat) : Res Bool := eqD 20 a b
theorem rcAt_ok (I : Inv X pins σ H s) {A : Around} (hu : A.units + 64 < cLine) {a b : Dat} {v w : V} {u u' : Value} {f g : List Addr} {r : Bool} (ra : Rep (glo X) H a v f) (rb : Rep (glo X) H b w g) (rv : RelV v u) (rw' : RelV w u') (h : eqF a b = .ok r) : SeqAt.RcAt A s u u' r :=
  rcAt_of (n := 19) I (by omega) (fun a b v w u u' f g r ra rb rv rw' h => eqAt_of I 19 A.in1 a b v w u u' f g r (by show A.units + 1 + 19 < cLine; omega) ra rb rv rw' h) ra rb rv rw' h
theorem rcNeAt_ok (I : Inv X pins σ H s) {A : Around} (hu : A.units + 64 < cLine) {a b : Dat} {v w : V} {u u' : Value} {f g : List Addr} {r : Bool} (ra : Rep (glo X) H a v f) (rb : Rep (glo X) H b w g) (rv : RelV v u) (rw' : RelV w u') (h : eqF a b = .ok r) : SeqAt.RcNeAt A s u u' (!r) :=
  rcNeAt_of (n := 19) I (by omega) (fun a b v w u u' f g r ra rb rv rw' h => eqAt_of I 19 A.in1 a b v w u u' f g r (by show A.units + 1 + 19 < cLine; omega) ra rb rv rw' h) ra rb rv rw' h
theorem eqAt_ok (I : Inv X pins σ H s) {A : Around} (hu : A.units + 63 < cLine) {a b : Dat} {v w : V} {u u' : Value} {f g : List Addr} {r : Bool} (ra : Rep (glo X) H a v f) (rb : Rep (glo X) H b w g) (rv : RelV v u) (rw' : RelV w u') (h : eqF a b = .ok r) : SeqAt.EqAt A s u u' r :=
  eqAt_of I 20 A a b v w u u' f g r (by omega) ra rb rv rw' h
theorem eqL_cons {f : Dat → Dat → Res Bool} {x y : Dat} {xs ys : List Dat} {r : Bool} (h : eqL f (x :: xs) (y :: ys) = .ok r) : ∃ b c, f x y = .ok b ∧ eqL f xs ys = .ok c ∧ r = (b && c) := by
  simp only [eqL] at h
  cases e1 : f x y with
  | no =>
    rw [e1] at h
    cases h
  | exc c =>
    rw [e1] at h
    cases h
  | ok b =>
    cases e2 : eqL f xs ys with
    | no =>
      rw [e1, e2] at h
      cases h
    | exc c =>
      rw [e1, e2] at h
      cases h
    | ok c =>
      rw [e1, e2] at h
      have h : Res.ok (b && c) = Res.ok r := h
      injection h with h
      exact ⟨b, c, rfl, rfl, h.symm⟩
/-- one value, two data: both answer alike -/
theorem eqD_cong (I : Inv X pins σ H s) : ∀ (n : Nat) (a b z : Dat) (v w : V) (u : Value) (f g : List Addr) (r r' : Bool), Rep (glo X) H a v f → Rep (glo X) H b w g → RelV v u → RelV w u → eqD n a z = .ok r → eqD n b z = .ok r' → r = r'
  | 0, _, _, _, _, _, _, _, _, _, _, _, _, _, _, h, _ => by cases h
  | n + 1, a, b, z, v, w, u, f, g, r, r', ra, rb, rv, rw', h, h' => by
    have A := vwAt I ra rv
    have B := vwAt I rb rw'
    have L : ∀ (xs ys zs : List Dat) (vs ws : List V) (us : List Value) (f g : List Addr) (r r' : Bool), RepL (glo X) H xs vs f → RepL (glo X) H ys ws g → Vals vs us → Vals ws us → eqL (eqD n) xs zs = .ok r → eqL (eqD n) ys zs = .ok r' → r = r' := by
      intro xs
      induction xs with
      | nil =>
        intro ys zs vs ws us f g r r' h1 h2 h3 h4 h5 h6
        have l1 := h1.len
        have l2 := h2.len
        have l3 := h3.length
        have l4 := h4.length
        cases ys with
        | nil =>
          rw [h5] at h6
          injection h6
        | cons y ys =>
          simp only [List.length_nil, List.length_cons] at l1 l2
          omega
      | cons x xs ih =>
        intro ys zs vs ws us f g r r' h1 h2 h3 h4 h5 h6
        cases ys with
        | nil =>
          have l1 := h1.len
          have l2 := h2.len
          have l3 := h3.length
          have l4 := h4.length
          simp only [List.length_nil, List.length_cons] at l1 l2
          omega
        | cons y ys =>
          cases zs with
          | nil =>
            simp only [eqL] at h5 h6
            injection h5 with h5
            injection h6 with h6
            rw [← h5, ← h6]
          | cons z zs =>
            simp only [RepL] at h1 h2
            obtain ⟨v1, vs1, f1, f1', e1, e2, r1, rr1⟩ := h1
            obtain ⟨w1, ws1, g1, g1', e3, e4, r2, rr2⟩ := h2
            subst e1
            subst e3
            cases h3 with
            | cons p ps =>
              cases h4 with
              | cons q qs =>
                obtain ⟨b1, c1, k1, k2, k3⟩ := eqL_cons h5
                obtain ⟨b2, c2, m1, m2, m3⟩ := eqL_cons h6
                rw [k3, m3, eqD_cong I n x y z v1 w1 _ f1 g1 b1 b2 r1 r2 p q k1 m1, ih ys zs vs1 ws1 _ _ _ c1 c2 rr1 rr2 ps qs k2 m2]
    have na : wt (vw a) ≠ 8 := fun e => by
      cases ea : vw a <;> rw [ea] at e <;> simp [wt] at e
      simp only [eqD, ea] at h
      cases h
    have nb : wt (vw b) ≠ 8 := fun e => by
      cases eb : vw b <;> rw [eb] at e <;> simp [wt] at e
      simp only [eqD, eb] at h'
      cases h'
    have t := A.two B na nb
    by_cases hs : ∃ t xs, vw a = .seq t xs
    · obtain ⟨t1, xs, ea⟩ := hs
      obtain ⟨t2, ys, eb⟩ : ∃ t ys, vw b = .seq t ys := by
        cases eb : vw b <;> rw [ea, eb] at t <;> simp [wt] at t
        exact ⟨_, _, rfl⟩
      rw [ea] at A
      rw [eb] at B
      have ht : t1 = t2 := by
        cases t1 <;> cases t2 <;> first | rfl | skip
        all_goals
          exfalso
          obtain ⟨l, its, vs, fp, q1, q2, q3, q4⟩ := A
          obtain ⟨l', its', vs', fp', p1, p2, p3, p4⟩ := B
          subst q1
          injection p1 with p1
          subst p1
          obtain ⟨o, o1, o2, m, o3⟩ := q2
          obtain ⟨o', o1', o2', m', o3'⟩ := p2
          rw [o1] at o1'
          cases o1'
          rw [o2] at o2'
          simp at o2'
      subst ht
      have sub : ∃ (vs vs' : List V) (us : List Value) (f g : List Addr), RepL (glo X) H xs vs f ∧ RepL (glo X) H ys vs' g ∧ Vals vs us ∧ Vals vs' us := by
        cases t1
        all_goals
          obtain ⟨l, its, vs, fp, q1, q2, q3, q4⟩ := A
          obtain ⟨l', its', vs', fp', p1, p2, p3, p4⟩ := B
          subst q1
          injection p1 with p1
          subst p1
          obtain ⟨o, o1, o2, m, o3⟩ := q2
          obtain ⟨o', o1', o2', m', o3'⟩ := p2
          rw [o1] at o1'
          cases o1'
          rw [o3] at o3'
          injection o3' with o3' _
          subst o3'
          exact ⟨vs, vs', _, fp, fp', q4, p4, q3, p3⟩
      obtain ⟨vs, vs', us, f1, g1, s1, s2, s3, s4⟩ := sub
      simp only [eqD, ea] at h
      simp only [eqD, eb] at h'
      cases ez : vw z with
      | seq tz zs =>
        simp only [ez] at h h'
        by_cases e : t1 = tz
        · rw [if_pos e] at h h'
          exact L _ _ _ _ _ _ _ _ _ _ s1 s2 s3 s4 h h'
        · rw [if_neg e] at h h'
          injection h with h
          injection h' with h'
          rw [← h, ← h']
      | oth =>
        simp only [ez] at h
        cases h
      | _ =>
        simp only [ez] at h h'
        injection h with h
        injection h' with h'
        rw [← h, ← h']
    · have e : vw a = vw b := by
        cases ea : vw a with
        | seq t xs => exact absurd ⟨t, xs, ea⟩ hs
        | oth =>
          rw [ea] at na
          simp [wt] at na
        | non =>
          rw [ea] at t
          cases eb : vw b <;> rw [eb] at t <;> simp [wt] at t
          all_goals rfl
        | bl x =>
          rw [ea] at t A
          cases eb : vw b <;> rw [eb] at t B <;> simp [wt] at t
          simp only [VwAt] at A B
          subst A
          injection B with B
          rw [B]
        | int x =>
          rw [ea] at t A
          cases eb : vw b <;> rw [eb] at t B <;> simp [wt] at t
          simp only [VwAt] at A B
          obtain ⟨_, A⟩ := A
          obtain ⟨_, B⟩ := B
          subst A
          injection B with B _
          rw [B]
        | str x =>
          rw [ea] at t A
          cases eb : vw b <;> rw [eb] at t B <;> simp [wt] at t
          simp only [VwAt] at A B
          obtain ⟨_, A⟩ := A
          obtain ⟨_, B⟩ := B
          subst A
          injection B with B _
          rw [mkS_inj B]
      have : eqD (n + 1) a z = eqD (n + 1) b z := by simp only [eqD, e]
      rw [this, h'] at h
      injection h with h
      exact h.symm
end
end PV

namespace PV
open PySem PySem.Spec L2

/-- what a context must be -/
structure XOk (k : Nat) (X : Cx) : Prop where
  calm : X.calm = true
  nd : X.N.Nodup
  hr : Room k X.A
theorem XOk.hu {k : Nat} {X : Cx} (C : XOk k X) : X.A.units + 1 < cLine := hu_of C.hr
theorem XOk.u64 {k : Nat} {X : Cx} (C : XOk k X) : X.A.units + 64 < cLine := C.hr.units
section
variable {X : Cx} {W : WX} {k : Nat}
theorem pe_orE {e : Expr} {t u : TE} (a : PE X e t) (b : PE X e u) : PE X e (fun σ H Q => t σ H Q ∨ u σ H Q) :=
  ⟨fun pins s σ H Q I h => h.elim (a.run pins s σ H Q I) (b.run pins s σ H Q I)⟩
/-- by values, at data -/
def OpS (X : Cx) (r : R2) (g : Rs → Rs → Res Rs) : Prop := ∀ (W : WX) (H0 H : Hp) (F : Fp) (σ : L2.St) (ra rb : Rs) (x y : V) (fa fb : List Addr) (Q : VK),
  Same H0 H → (∀ i, ∀ a ∈ F i, H0 a ≠ none) → Gv (glo X) H0 F ra x H fa → Gv (glo X) H0 F rb y H fb → Out X W H0 H F σ (g ra rb) Q → r x y H Q
def fBin (g : Rs → Rs → Res Rs) (fa fb : Sto → Res Rs) : Sto → Res Rs := fun E => (fa E).bind fun ra => (fb E).bind fun rb => g ra rb
theorem ev_bin2 {a b e : Expr} {r : R2} {g : Rs → Rs → Res Rs} {fa fb : Sto → Res Rs} (hg : OpS X r g) (p : ∀ {ta tb : TE}, PE X a ta → PE X b tb → PE X e (tOp r ta tb)) (ha : Ev X W a fa) (hb : Ev X W b fb) : Ev X W e (fBin g fa fb) := by
  refine ⟨weakE (p ha.pe hb.pe) fun σ H Q ⟨E, F, re, o⟩ => ?_⟩
  refine seqE re (Same.refl H) o fun ra x H1 f1 e1 s1 g1 o1 => ?_
  refine seqE (re.same s1) s1 o1 fun rb y H2 f2 e2 s2 g2 o2 => ?_
  exact hg W H H2 F σ ra rb x y f1 f2 Q (s1.trans s2) (fun i => re.trk i) (g1.same s2) g2 o2
theorem ev_op {a b : Expr} {op : Operator} {pos : Pos} {r : R2} {g : Rs → Rs → Res Rs} {fa fb : Sto → Res Rs} (ho : OpR X (binaryOp op) r) (hg : OpS X r g) (ha : Ev X W a fa) (hb : Ev X W b fb) : Ev X W (.BinOp a op b pos) (fBin g fa fb) :=
  ev_bin2 hg (fun p q => pe_op ho p q) ha hb
theorem ev_cmp {a b : Expr} {op : CmpOp} {pos : Pos} {r : R2} {g : Rs → Rs → Res Rs} {fa fb : Sto → Res Rs} (ho : OpR X (compareOp op) r) (hg : OpS X r g) (ha : Ev X W a fa) (hb : Ev X W b fb) (hm : behindInMarks op b = false) : Ev X W (.Compare a [op] [b] pos) (fBin g fa fb) :=
  ev_bin2 hg (fun p q => pe_cmpR ho p q hm) ha hb

theorem rep_int {G : Glo} {H : Hp} {i : Int} {v : V} {f : List Addr} (r : Rep G H (.int i) v f) : v = .int i := by
  simp only [Rep] at r
  exact r.1
theorem rep_str {G : Glo} {H : Hp} {x : Tx} {v : V} {f : List Addr} (r : Rep G H (.str x) v f) : v = .str (mkS x) := by
  simp only [Rep] at r
  exact r.1
theorem rep_bl {G : Glo} {H : Hp} {x : Bool} {v : V} {f : List Addr} (r : Rep G H (.bl x) v f) : v = .bl x := by
  simp only [Rep] at r
  exact r.1
theorem rep_non {G : Glo} {H : Hp} {v : V} {f : List Addr} (r : Rep G H .non v f) : v = .non := by
  simp only [Rep] at r
  exact r.1
theorem rep_lst {G : Glo} {H : Hp} {xs : List Dat} {v : V} {f : List Addr} (r : Rep G H (.lst xs) v f) : ∃ a vs f', v = .ref a ∧ H a = some (.lst vs) ∧ RepL G H xs vs f' ∧ f = a :: f' := by
  simpa only [Rep] using r
theorem mk_int {G : Glo} {H : Hp} {i : Int} : Rep G H (.int i) (.int i) [] := by simp [Rep]
theorem mk_bl {G : Glo} {H : Hp} {i : Bool} : Rep G H (.bl i) (.bl i) [] := by simp [Rep]
theorem mk_non {G : Glo} {H : Hp} : Rep G H .non .non [] := by simp [Rep]
theorem mk_str {G : Glo} {H : Hp} {x : Tx} : Rep G H (.str x) (.str (mkS x)) [] := by simp [Rep]
theorem mkS_app (x y : Tx) : mkS x ++ mkS y = mkS (x ++ y) := by
  show Str.append _ _ = _
  unfold Str.append mkS
  simp

/-- a new list -/
theorem Gv.newL {G : Glo} {H0 H : Hp} {F : Fp} {xs : List Dat} {vs : List V} {fp : List Addr} {p : Addr} {src : List Nat} (s : Same H0 H) (r : RepL G H xs vs fp) (hp : H p = none) (hs : ∀ a ∈ fp, H0 a = none ∨ ∃ i ∈ src, a ∈ F i) :
    Gv G H0 F ⟨.lst xs, true, src, if flatL xs then some [] else none⟩ (.ref p) (upd H p (.lst vs)) (p :: fp) := by
  have nfp : p ∉ fp := fun z => RepL.trk _ _ _ r p z hp
  have wp : Wr (upd H p (.lst vs)) p := ⟨_, upd_same, rfl⟩
  refine ⟨?_, fun a ha => ?_, fun _ => ⟨p, fp, rfl, s.free hp, wp, nfp⟩, fun m em => ?_⟩
  · simp only [Rep]
    exact ⟨p, vs, fp, rfl, upd_same, r.same (same_new hp), rfl⟩
  · rcases List.mem_cons.mp ha with z | z
    · rw [z]
      exact .inl (s.free hp)
    · exact hs a z
  · by_cases hf : flatL xs = true
    · rw [if_pos hf] at em
      injection em with em
      subst em
      have := RepL.flat _ _ _ r hf
      subst this
      refine ⟨[p], by simp, by simp, fun a ha => ?_⟩
      have : a = p := by simpa using ha
      subst this
      exact ⟨s.free hp, wp⟩
    · rw [if_neg hf] at em
      cases em
def rNewL (xs : List Dat) (src : List Nat) : Rs := ⟨.lst xs, true, src, if flatL xs then some [] else none⟩

def gAdd (ra rb : Rs) : Res Rs := match ra.d, rb.d with
  | .int i, .int j => .ok (rsF (.int (i + j)))
  | .str x, .str y => if x.length + y.length ≤ 1000000 then .ok (rsF (.str (x ++ y))) else .no
  | .lst xs, .lst ys => if xs.length + ys.length ≤ 1000000 then .ok (rNewL (xs ++ ys) (ra.src ++ rb.src)) else .no
  | _, _ => .no
abbrev rAddA : R2 := fun x y H Q => ((rI0 fun i j => .int (i + j)) x y H Q ∨ (∃ i j, x = .str i ∧ y = .str j ∧ i.length + j.length ≤ sizeLine ∧ Q (.str (i ++ j)) H)) ∨ rCat x y H Q
theorem op_addA : OpR X (binaryOp .Add) rAddA := OpR.or (OpR.or op_add op_add_str) op_cat
theorem ops_add : OpS X rAddA gAdd := by
  intro W H0 H F σ ra rb x y fa fb Q s0 tr ga gb o
  have pa := ga.rep
  have pb := gb.rep
  unfold gAdd at o
  cases ea : ra.d <;> cases eb : rb.d <;> simp only [ea, eb] at o <;> first | exact o.elim | skip
  · rw [ea] at pa
    rw [eb] at pb
    rw [rep_int pa, rep_int pb]
    exact .inl (.inl ⟨_, _, rfl, rfl, o.flat mk_int⟩)
  · rename_i xa ya
    rw [ea] at pa
    rw [eb] at pb
    by_cases h : xa.length + ya.length ≤ 1000000
    · rw [if_pos h] at o
      rw [rep_str pa, rep_str pb]
      refine .inl (.inr ⟨_, _, rfl, rfl, by rw [mkS_len, mkS_len]; exact sizeLine_le h, ?_⟩)
      rw [mkS_app]
      exact o.flat mk_str
    · rw [if_neg h] at o
      exact o.elim
  · rename_i xa ya
    rw [ea] at pa
    rw [eb] at pb
    by_cases h : xa.length + ya.length ≤ 1000000
    · rw [if_pos h] at o
      obtain ⟨a, va, f1, e1, h1, r1, z1⟩ := rep_lst pa
      obtain ⟨b, vb, f2, e2, h2, r2, z2⟩ := rep_lst pb
      refine .inr ⟨a, b, va, vb, e1, e2, h1, h2, by rw [r1.len, r2.len]; exact sizeLine_le h, fun p hp => ?_⟩
      have hs : ∀ c ∈ f1 ++ f2, H0 c = none ∨ ∃ i ∈ ra.src ++ rb.src, c ∈ F i := by
        intro c hc
        rcases List.mem_append.mp hc with q | q
        · exact (ga.prv.src c (by simp [z1, q])).imp id fun ⟨i, hi, w⟩ => ⟨i, by simp [hi], w⟩
        · exact (gb.prv.src c (by simp [z2, q])).imp id fun ⟨i, hi, w⟩ => ⟨i, by simp [hi], w⟩
      exact o _ _ _ (same_new hp) (Gv.newL s0 (r1.app r2) hp hs)
    · rw [if_neg h] at o
      exact o.elim
theorem ev_add {a b : Expr} {pos : Pos} {fa fb : Sto → Res Rs} (ha : Ev X W a fa) (hb : Ev X W b fb) : Ev X W (.BinOp a .Add b pos) (fBin gAdd fa fb) := ev_op op_addA ops_add ha hb
/-- two ints -/
def gI (C : Int → Int → Bool) (g : Int → Int → Dat) (ra rb : Rs) : Res Rs := match ra.d, rb.d with
  | .int i, .int j => if C i j then .ok (rsF (g i j)) else .no
  | _, _ => .no
theorem ops_I {C : Int → Int → Bool} {P : Int → Int → Prop} {g : Int → Int → V} {d : Int → Int → Dat} (hC : ∀ i j, C i j = true → P i j) (hd : ∀ G H i j, Rep G H (d i j) (g i j) []) : OpS X (rI P g) (gI C d) := by
  intro W H0 H F σ ra rb x y fa fb Q s0 tr ga gb o
  have pa := ga.rep
  have pb := gb.rep
  unfold gI at o
  cases ea : ra.d <;> cases eb : rb.d <;> simp only [ea, eb] at o <;> first | exact o.elim | skip
  rename_i i j
  rw [ea] at pa
  rw [eb] at pb
  by_cases h : C i j = true
  · rw [if_pos h] at o
    exact ⟨i, j, rep_int pa, rep_int pb, hC i j h, o.flat (hd _ _ i j)⟩
  · rw [if_neg h] at o
    exact o.elim
theorem ops_I0 {g : Int → Int → V} {d : Int → Int → Dat} (hd : ∀ G H i j, Rep G H (d i j) (g i j) []) : OpS X (rI0 g) (gI (fun _ _ => true) d) := by
  intro W H0 H F σ ra rb x y fa fb Q s0 tr ga gb o
  have pa := ga.rep
  have pb := gb.rep
  unfold gI at o
  cases ea : ra.d <;> cases eb : rb.d <;> simp only [ea, eb] at o <;> first | exact o.elim | skip
  rename_i i j
  rw [ea] at pa
  rw [eb] at pb
  rw [if_pos trivial] at o
  exact ⟨i, j, rep_int pa, rep_int pb, o.flat (hd _ _ i j)⟩
def gSub : Rs → Rs → Res Rs := gI (fun _ _ => true) fun i j => .int (i - j)
theorem ev_subI {a b : Expr} {pos : Pos} {fa fb : Sto → Res Rs} (ha : Ev X W a fa) (hb : Ev X W b fb) : Ev X W (.BinOp a .Sub b pos) (fBin gSub fa fb) := ev_op op_sub (ops_I0 fun _ _ _ _ => mk_int) ha hb
def cMod (_ j : Int) : Bool := decide (0 < j)
def gMod : Rs → Rs → Res Rs := gI cMod fun i j => .int (i % j)
theorem ev_mod {a b : Expr} {pos : Pos} {fa fb : Sto → Res Rs} (ha : Ev X W a fa) (hb : Ev X W b fb) : Ev X W (.BinOp a .Mod b pos) (fBin gMod fa fb) :=
  ev_op op_mod (ops_I (fun i j h => by simpa [cMod] using h) fun _ _ _ _ => mk_int) ha hb
def cFdv (_ j : Int) : Bool := decide (0 < j) && decide (j < 1073741824)
def gFdv : Rs → Rs → Res Rs := gI cFdv fun i j => .int (i / j)
theorem ev_fdv {a b : Expr} {pos : Pos} {fa fb : Sto → Res Rs} (ha : Ev X W a fa) (hb : Ev X W b fb) : Ev X W (.BinOp a .FloorDiv b pos) (fBin gFdv fa fb) :=
  ev_op op_fdiv (ops_I (fun i j h => by simp [cFdv] at h; exact ⟨h.1, h.2⟩) fun _ _ _ _ => mk_int) ha hb
def cPow (i j : Int) : Bool := decide (0 ≤ j) && decide (j ≤ 1000000) && decide (i.natAbs < 2 ^ 64)
def gPow : Rs → Rs → Res Rs := gI cPow fun i j => .int (i ^ j.toNat)
theorem foldl_reps (x : Array Nat) : ∀ (n : Nat) (acc : Array Nat), ((List.replicate n x).foldl (· ++ ·) acc).toList = acc.toList ++ (List.replicate n x.toList).flatten
  | 0, acc => by simp
  | n + 1, acc => by
    rw [List.replicate_succ, List.foldl_cons, foldl_reps x n (acc ++ x), List.replicate_succ, List.flatten_cons]
    simp
theorem mul_txt (x : Tx) (n : Int) : Txt.mul (mkS x) n = mkS (List.replicate n.toNat x).flatten := by
  unfold Txt.mul
  by_cases h : n < 1
  · have e : n.toNat = 0 := by omega
    rw [if_pos h, e]
    rfl
  · rw [if_neg h]
    by_cases h2 : (n == 1 || (mkS x).length == 0) = true
    · rw [if_pos h2]
      rcases Bool.or_eq_true_iff.mp h2 with q | q
      · have e : n = 1 := by simpa using q
        subst e
        show mkS x = mkS (List.replicate 1 x).flatten
        simp
      · have e : x = [] := by
          rw [mkS_len] at q
          simpa using q
        subst e
        simp
    · rw [if_neg h2]
      have e := foldl_reps x.toArray n.toNat #[]
      show (⟨_⟩ : Str) = ⟨_⟩
      have e2 : ((List.replicate n.toNat (mkS x).cps).foldl (· ++ ·) #[]) = (List.replicate n.toNat x).flatten.toArray := by
        apply Array.toList_inj.mp
        rw [show (mkS x).cps = x.toArray from rfl, e]
        simp
      rw [e2]
theorem op_mul_str : OpR X (binaryOp .Mult) (fun x y H Q => ∃ (z : Str) (i : Int), x = .str z ∧ y = .int i ∧ MulOk z i ∧ Q (.str (Txt.mul z i)) H) := by
  intro pins s σ H x y v u Q I rx ry h
  obtain ⟨z, i, rfl, rfl, hc, q⟩ := h
  obtain ⟨t, rfl⟩ := rx
  obtain ⟨t', rfl⟩ := ry
  exact SB.mul hc fun t2 k => ⟨.str _, H, I.tok _, ⟨_, rfl⟩, q⟩
theorem mulOk_of {z : Str} {i : Int} (h1 : -1000000 ≤ i) (h2 : i ≤ 1000000) (h3 : z.length * i.toNat ≤ 1000000) : MulOk z i := by
  refine ⟨by simp; omega, fun h _ => ?_, fun h _ => ?_⟩
  · have hi : (0 : Int) < i := by omega
    have : (z.length : Int) * i ≤ 1000000 := by
      have e : ((z.length * i.toNat : Nat) : Int) = (z.length : Int) * i := by
        rw [Int.natCast_mul, Int.toNat_of_nonneg (by omega)]
      omega
    intro hh
    have h4 : (z.length : Int) * 1 ≤ (z.length : Int) * i := Int.mul_le_mul_of_nonneg_left (show (1 : Int) ≤ i by omega) (by omega)
    rw [Int.mul_one] at h4
    have h5 : (9223372036854775807 : Int) / i * i ≤ 9223372036854775807 := Int.ediv_mul_le _ (by omega)
    have h6 : (9223372036854775807 : Int) < ((9223372036854775807 : Int) / i + 1) * i := Int.lt_ediv_add_one_mul_self _ hi
    have h7 : ((9223372036854775807 : Int) / i + 1) * i ≤ (z.length : Int) * i := Int.mul_le_mul_of_nonneg_right (by
      have : (9223372036854775807 : Int) / i < z.length := hh
      omega) (by omega)
    omega
  · unfold Builtin.Str.tooLong
    have e : sizeLine = 16777216 := by decide
    simp only [decide_eq_false_iff_not, e]
    omega
def cMul (i j : Int) : Bool := decide ((Builtin.Int.intBits i : Int) + (Builtin.Int.intBits j : Int) ≤ 134217728)
def gMul (ra rb : Rs) : Res Rs := match ra.d, rb.d with
  | .int i, .int j => if cMul i j then .ok (rsF (.int (i * j))) else .no
  | .str x, .int j => if -1000000 ≤ j ∧ j ≤ 1000000 ∧ x.length * j.toNat ≤ 1000000 then .ok (rsF (.str (List.replicate j.toNat x).flatten)) else .no
  | .lst xs, .int j => if -1000000 ≤ j ∧ j ≤ 1000000 ∧ xs.length * j.toNat ≤ 1000000 ∧ flatL xs = true then .ok (rNewL (List.replicate j.toNat xs).flatten []) else .no
  | _, _ => .no
abbrev rMulA : R2 := fun x y H Q => ((rI CMulX fun i j => .int (i * j)) x y H Q ∨ (∃ (z : Str) (i : Int), x = .str z ∧ y = .int i ∧ MulOk z i ∧ Q (.str (Txt.mul z i)) H)) ∨ rRep x y H Q
theorem op_mulA : OpR X (binaryOp .Mult) rMulA := OpR.or (OpR.or op_mulX op_mul_str) op_rep
theorem repl_reps {G : Glo} {H : Hp} {xs : List Dat} {vs : List V} (r : RepL G H xs vs []) : ∀ n : Nat, RepL G H (List.replicate n xs).flatten (List.replicate n vs).flatten []
  | 0 => RepL.nil
  | n + 1 => by
    rw [List.replicate_succ, List.replicate_succ, List.flatten_cons, List.flatten_cons]
    exact r.app (repl_reps r n)
theorem ops_mul : OpS X rMulA gMul := by
  intro W H0 H F σ ra rb x y fa fb Q s0 tr ga gb o
  have pa := ga.rep
  have pb := gb.rep
  unfold gMul at o
  cases ea : ra.d <;> cases eb : rb.d <;> simp only [ea, eb] at o <;> first | exact o.elim | skip
  · rename_i i j
    rw [ea] at pa
    rw [eb] at pb
    by_cases h : cMul i j = true
    · rw [if_pos h] at o
      rw [rep_int pa, rep_int pb]
      exact .inl (.inl ⟨_, _, rfl, rfl, (by
        unfold cMul at h
        have h' := of_decide_eq_true h
        exact h'), o.flat mk_int⟩)
    · rw [if_neg h] at o
      exact o.elim
  · rename_i xa j
    rw [ea] at pa
    rw [eb] at pb
    by_cases h : -1000000 ≤ j ∧ j ≤ 1000000 ∧ xa.length * j.toNat ≤ 1000000
    · rw [if_pos h] at o
      rw [rep_str pa, rep_int pb]
      refine .inl (.inr ⟨_, _, rfl, rfl, mulOk_of h.1 h.2.1 (by rw [mkS_len]; exact h.2.2), ?_⟩)
      rw [mul_txt]
      exact o.flat mk_str
    · rw [if_neg h] at o
      exact o.elim
  · rename_i xa j
    rw [ea] at pa
    rw [eb] at pb
    by_cases h : -1000000 ≤ j ∧ j ≤ 1000000 ∧ xa.length * j.toNat ≤ 1000000 ∧ flatL xa = true
    · rw [if_pos h] at o
      obtain ⟨a, va, f1, e1, h1, r1, z1⟩ := rep_lst pa
      have ef := RepL.flat _ _ _ r1 h.2.2.2
      subst ef
      refine .inr ⟨a, j, va, e1, rep_int pb, h1, by omega, by omega, by rw [r1.len]; exact sizeLine_le h.2.2.1, fun p hp => ?_⟩
      exact o _ _ _ (same_new hp) (Gv.newL s0 (repl_reps r1 j.toNat) hp (fun _ z => nomatch z))
    · rw [if_neg h] at o
      exact o.elim
theorem ev_mul {a b : Expr} {pos : Pos} {fa fb : Sto → Res Rs} (ha : Ev X W a fa) (hb : Ev X W b fb) : Ev X W (.BinOp a .Mult b pos) (fBin gMul fa fb) := ev_op op_mulA ops_mul ha hb
def fNeg (f : Sto → Res Rs) : Sto → Res Rs := fun E => (f E).bind fun r => match r.d with
  | .int i => .ok (rsF (.int (-i)))
  | _ => .no
theorem ev_neg {a : Expr} {pos : Pos} {f : Sto → Res Rs} (ha : Ev X W a f) : Ev X W (.UnaryOp .USub a pos) (fNeg f) := by
  refine ⟨weakE (pe_un un_neg ha.pe) fun σ H Q ⟨E, F, re, o⟩ => ?_⟩
  refine seqE re (Same.refl H) o fun ra x H1 f1 e1 s1 g1 o1 => ?_
  have p := g1.rep
  cases ed : ra.d <;> simp only [ed] at o1 <;> first | exact o1.elim | skip
  rw [ed] at p
  exact ⟨_, rep_int p, o1.flat mk_int⟩

def gLt : Rs → Rs → Res Rs := gI (fun _ _ => true) fun i j => .bl (decide (i < j))
def gLe : Rs → Rs → Res Rs := gI (fun _ _ => true) fun i j => .bl (decide (i ≤ j))
def gGt : Rs → Rs → Res Rs := gI (fun _ _ => true) fun i j => .bl (decide (j < i))
def gGe : Rs → Rs → Res Rs := gI (fun _ _ => true) fun i j => .bl (decide (j ≤ i))
theorem ev_le {a b : Expr} {pos : Pos} {fa fb : Sto → Res Rs} (ha : Ev X W a fa) (hb : Ev X W b fb) : Ev X W (.Compare a [.LtE] [b] pos) (fBin gLe fa fb) := ev_cmp op_le (ops_I0 fun _ _ _ _ => mk_bl) ha hb (nomark _)
theorem ev_ge {a b : Expr} {pos : Pos} {fa fb : Sto → Res Rs} (ha : Ev X W a fa) (hb : Ev X W b fb) : Ev X W (.Compare a [.GtE] [b] pos) (fBin gGe fa fb) := ev_cmp op_ge (ops_I0 fun _ _ _ _ => mk_bl) ha hb (nomark _)
/-- == at any data but dicts and objects -/
abbrev rEqP (X : Cx) (neg : Bool) : R2 := fun x y H Q => ∃ a b f g r, Rep (glo X) H a x f ∧ Rep (glo X) H b y g ∧ eqF a b = .ok r ∧ Q (.bl (if neg then !r else r)) H
theorem op_eqP (C : XOk k X) : OpR X (compareOp .Eq) (rEqP X false) := by
  intro pins s σ H x y v u Q I rx ry h
  obtain ⟨a, b, f, g, r, ra, rb, e, q⟩ := h
  exact rcAt_ok I C.u64 ra rb rx ry e X.prog X.w X.xe _ ⟨.bl r, H, I, rfl, q⟩
theorem op_neP (C : XOk k X) : OpR X (compareOp .NotEq) (rEqP X true) := by
  intro pins s σ H x y v u Q I rx ry h
  obtain ⟨a, b, f, g, r, ra, rb, e, q⟩ := h
  exact rcNeAt_ok I C.u64 ra rb rx ry e X.prog X.w X.xe _ ⟨.bl (!r), H, I, rfl, q⟩
def gEq (ra rb : Rs) : Res Rs := (eqF ra.d rb.d).bind fun r => .ok (rsF (.bl r))
def gNe (ra rb : Rs) : Res Rs := (eqF ra.d rb.d).bind fun r => .ok (rsF (.bl (!r)))
theorem ops_eq : OpS X (rEqP X false) gEq := by
  intro W H0 H F σ ra rb x y fa fb Q s0 tr ga gb o
  unfold gEq at o
  cases e : eqF ra.d rb.d with
  | no =>
    rw [e] at o
    exact o.elim
  | exc c =>
    exfalso
    exact eqF_exc e
  | ok r =>
    rw [e] at o
    have o : Out X W H0 H F σ (.ok (rsF (.bl r))) Q := o
    exact ⟨_, _, _, _, r, ga.rep, gb.rep, e, o.flat mk_bl⟩
where
  eqL_exc {f : Dat → Dat → Res Bool} (h : ∀ a b c, f a b ≠ .exc c) : ∀ xs ys c, eqL f xs ys ≠ .exc c
    | [], [], _, e => by simp [eqL] at e
    | [], _ :: _, _, e => by simp [eqL] at e
    | _ :: _, [], _, e => by simp [eqL] at e
    | x :: xs, y :: ys, c, e => by
      simp only [eqL] at e
      cases e1 : f x y with
      | no =>
        rw [e1] at e
        cases e
      | exc c' => exact h x y c' e1
      | ok b =>
        rw [e1] at e
        cases e2 : eqL f xs ys with
        | no =>
          rw [e2] at e
          cases e
        | exc c' => exact eqL_exc h xs ys c' e2
        | ok b' =>
          rw [e2] at e
          cases e
  eqD_exc : ∀ n a b c, eqD n a b ≠ .exc c
    | 0, _, _, _, e => by cases e
    | n + 1, a, b, c, e => by
      cases ea : vw a <;> cases eb : vw b <;> simp only [eqD, ea, eb] at e <;> first | cases e | skip
      split at e
      · exact eqL_exc (eqD_exc n) _ _ _ e
      · cases e
  eqF_exc {a b : Dat} {c : Tx} : eqF a b = .exc c → False := eqD_exc 20 a b c
theorem ops_ne : OpS X (rEqP X true) gNe := by
  intro W H0 H F σ ra rb x y fa fb Q s0 tr ga gb o
  unfold gNe at o
  cases e : eqF ra.d rb.d with
  | no =>
    rw [e] at o
    exact o.elim
  | exc c =>
    exfalso
    exact ops_eq.eqF_exc e
  | ok r =>
    rw [e] at o
    have o : Out X W H0 H F σ (.ok (rsF (.bl (!r)))) Q := o
    exact ⟨_, _, _, _, r, ga.rep, gb.rep, e, o.flat mk_bl⟩
theorem ev_eq (C : XOk k X) {a b : Expr} {pos : Pos} {fa fb : Sto → Res Rs} (ha : Ev X W a fa) (hb : Ev X W b fb) : Ev X W (.Compare a [.Eq] [b] pos) (fBin gEq fa fb) := ev_cmp (op_eqP C) ops_eq ha hb (nomark _)
theorem ev_ne (C : XOk k X) {a b : Expr} {pos : Pos} {fa fb : Sto → Res Rs} (ha : Ev X W a fa) (hb : Ev X W b fb) : Ev X W (.Compare a [.NotEq] [b] pos) (fBin gNe fa fb) := ev_cmp (op_neP C) ops_ne ha hb (nomark _)
/-- is, is not: against None, True, False -/
def isNonD : Dat → Bool
  | .non => true
  | _ => false
def gIs (neg : Bool) (ra rb : Rs) : Res Rs := match ra.d, rb.d with
  | .bl a, .bl b => .ok (rsF (.bl (if neg then !decide (a = b) else decide (a = b))))
  | a, .non => .ok (rsF (.bl (if neg then !isNonD a else isNonD a)))
  | _, _ => .no
abbrev rIsA (neg : Bool) : R2 := fun x y H Q => (∃ a b : Bool, x = .bl a ∧ y = .bl b ∧ Q (.bl (if neg then !decide (a = b) else decide (a = b))) H) ∨ (y = .non ∧ Q (.bl (if neg then !decide (x = .non) else decide (x = .non))) H)
theorem op_isA : OpR X (compareOp .Is) (rIsA false) := OpR.or op_isBl op_isN
theorem rep_isNon {G : Glo} {H : Hp} {d : Dat} {v : V} {f : List Addr} (r : Rep G H d v f) : decide (v = .non) = isNonD d := by
  cases d <;> simp only [Rep] at r <;> simp only [isNonD]
  · simp [r.1]
  · simp [r.1]
  · simp [r.1]
  · simp [r.1]
  all_goals
    obtain ⟨a, r⟩ := r
    first
      | (obtain ⟨e, _⟩ := r; subst e; simp; done)
      | (obtain ⟨_, e, _⟩ := r; subst e; simp; done)
      | (obtain ⟨_, _, e, _⟩ := r; subst e; simp; done)
      | (obtain ⟨_, _, _, e, _⟩ := r; subst e; simp; done)
      | (obtain ⟨_, _, _, _, e, _⟩ := r; subst e; simp; done)
theorem ops_is {neg : Bool} : OpS X (rIsA neg) (gIs neg) := by
  intro W H0 H F σ ra rb x y fa fb Q s0 tr ga gb o
  have pa := ga.rep
  have pb := gb.rep
  unfold gIs at o
  cases eb : rb.d with
  | non =>
    rw [eb] at pb
    have key := rep_isNon pa
    cases ea : ra.d <;> simp only [ea, eb] at o <;> refine .inr ⟨rep_non pb, ?_⟩ <;> rw [ea] at key <;> rw [key] <;> exact o.flat mk_bl
  | bl b =>
    cases ea : ra.d <;> simp only [ea, eb] at o <;> first | exact o.elim | skip
    rw [ea] at pa
    rw [eb] at pb
    exact .inl ⟨_, _, rep_bl pa, rep_bl pb, o.flat mk_bl⟩
  | _ =>
    cases ea : ra.d <;> simp only [ea, eb] at o <;> exact o.elim
end
end PV

namespace PV
open PySem PySem.Spec L2

def anyEq (x : Dat) : List Dat → Res Bool
  | [] => .ok false
  | y :: ys => (eqF y x).bind fun b => (anyEq x ys).bind fun c => .ok (b || c)
theorem anyEq_ok {x : Dat} : ∀ {ys : List Dat} {r : Bool}, anyEq x ys = .ok r → r = ys.any (fun y => getB (eqF y x)) ∧ ∀ y ∈ ys, ∃ b, eqF y x = .ok b
  | [], r, h => by
    simp only [anyEq] at h
    injection h with h
    exact ⟨h.symm, fun _ z => nomatch z⟩
  | y :: ys, r, h => by
    simp only [anyEq] at h
    cases e1 : eqF y x with
    | no =>
      rw [e1] at h
      cases h
    | exc c =>
      rw [e1] at h
      cases h
    | ok b =>
      cases e2 : anyEq x ys with
      | no =>
        rw [e1, e2] at h
        cases h
      | exc c =>
        rw [e1, e2] at h
        cases h
      | ok c =>
        rw [e1, e2] at h
        have h : Res.ok (b || c) = Res.ok r := h
        injection h with h
        obtain ⟨i1, i2⟩ := anyEq_ok e2
        refine ⟨?_, fun z hz => ?_⟩
        · rw [List.any_cons, e1, ← h, i1]
          rfl
        · rcases List.mem_cons.mp hz with q | q
          · rw [q]
            exact ⟨b, e1⟩
          · exact i2 z q
theorem anyEq_exc {x : Dat} : ∀ {ys : List Dat} {c : Tx}, anyEq x ys = .exc c → False
  | [], c, h => by
    simp only [anyEq] at h
    cases h
  | y :: ys, c, h => by
    simp only [anyEq] at h
    cases e1 : eqF y x with
    | no =>
      rw [e1] at h
      cases h
    | exc c => exact ops_eq.eqF_exc e1
    | ok b =>
      rw [e1] at h
      cases e2 : anyEq x ys with
      | no =>
        rw [e2] at h
        cases h
      | exc c => exact anyEq_exc e2
      | ok c =>
        rw [e2] at h
        cases h
section
variable {X : Cx} {pins : List (Addr × Obj)} {σ : L2.St} {H : Hp} {s : Shared} {W : WX} {k : Nat}
/-- the values that stand in a list, against one -/
theorem any_vals {A : Around} (I : Inv X pins σ H s) (hu : A.units + 64 < cLine) {x : Dat} {vx : V} {ux : Value} {fx : List Addr} (rx : Rep (glo X) H x vx fx) (ru : RelV vx ux) : ∀ (ys : List Dat) (vs : List V) (us : List Value) (fp : List Addr), RepL (glo X) H ys vs fp → Vals vs us → (∀ y ∈ ys, ∃ b, eqF y x = .ok b) →
    ∃ e : Value → Bool, (∀ u ∈ us, SeqAt.EqAt A.in1 s u ux (e u)) ∧ ∀ (i : Nat) (y : Dat) (u : Value), ys[i]? = some y → us[i]? = some u → e u = getB (eqF y x) := by
  intro ys vs us fp r v h
  -- each value by the data that it stands for; unlike data at one value have one answer
  have key : ∀ u ∈ us, ∃ b, SeqAt.EqAt A.in1 s u ux b ∧ ∀ (i : Nat) (y : Dat), ys[i]? = some y → us[i]? = some u → eqF y x = .ok b := by
    intro u hu'
    obtain ⟨i, hi⟩ := List.getElem?_of_mem hu'
    have hl : i < ys.length := by
      have a := (List.getElem?_eq_some_iff.mp hi).1
      have b := v.length
      have c := r.len
      omega
    obtain ⟨vv, f, q1, q2, _⟩ := r.at (List.getElem?_eq_getElem hl)
    obtain ⟨u', e1, r1⟩ := v.get q1
    rw [hi] at e1
    injection e1 with e1
    subst e1
    obtain ⟨b, hb⟩ := h _ (List.getElem_mem hl)
    have E := eqAt_ok (A := A.in1) I (by show A.units + 1 + 63 < cLine; omega) q2 rx r1 ru hb
    refine ⟨b, E, fun j y hy hj => ?_⟩
    obtain ⟨vv', f', p1, p2, _⟩ := r.at hy
    obtain ⟨u2, e2, r2⟩ := v.get p1
    rw [hj] at e2
    injection e2 with e2
    subst e2
    obtain ⟨b', hb'⟩ := h _ (List.mem_of_getElem? hy)
    rw [hb']
    congr 1
    exact eqD_cong I 20 _ _ x vv' vv u f' f b' b p2 q2 r2 r1 hb' hb
  classical
  refine ⟨fun u => if hm : u ∈ us then (key u hm).choose else false, fun u hm => ?_, ?_⟩
  · simp only [dif_pos hm]
    exact (key u hm).choose_spec.1
  · intro i y u hy hi
    have hm : u ∈ us := List.mem_of_getElem? hi
    simp only [dif_pos hm]
    rw [(key u hm).choose_spec.2 i y hy hi]
    rfl
/-- two lists place by place -/
theorem any_places {us : List Value} {ys : List Dat} {e : Value → Bool} {p : Dat → Bool} (l : ys.length = us.length) (g : ∀ (i : Nat) (y : Dat) (u : Value), ys[i]? = some y → us[i]? = some u → e u = p y) : us.map e = ys.map p := by
  apply List.ext_getElem?
  intro i
  rw [List.getElem?_map, List.getElem?_map]
  cases hu : us[i]? with
  | none =>
    have : ys[i]? = none := by
      rw [List.getElem?_eq_none_iff] at hu ⊢
      omega
    rw [this]
    rfl
  | some u =>
    have hl := (List.getElem?_eq_some_iff.mp hu).1
    have hy : ys[i]? = some ys[i] := List.getElem?_eq_getElem (by omega)
    rw [hy]
    show some (e u) = some (p _)
    rw [g i _ u hy hu]
abbrev rInP (X : Cx) (neg : Bool) : R2 := fun x y H Q => ∃ a b f g t ys r, Rep (glo X) H a x f ∧ Rep (glo X) H b y g ∧ vw b = .seq t ys ∧ anyEq a ys = .ok r ∧ Q (.bl (if neg then !r else r)) H
theorem in_core {A : Around} (I : Inv X pins σ H s) (hu : A.units + 64 < cLine) {x b : Dat} {vx vb : V} {ux ub : Value} {fx fb : List Addr} {t : Bool} {ys : List Dat} {r : Bool} (rx : Rep (glo X) H x vx fx) (ru : RelV vx ux) (rb : Rep (glo X) H b vb fb) (rvb : RelV vb ub) (hv : vw b = .seq t ys) (h : anyEq x ys = .ok r) :
    ∃ (l : Addr) (items : Array Value) (e : Value → Bool), ub = .ref l ∧ (if t then s.heap.IsTuple l items else s.heap.IsList l items) ∧ (∀ u, u ∈ items → SeqAt.EqAt A.in1 s u ux (e u)) ∧ items.any e = r := by
  have P := vwAt I rb rvb
  rw [hv] at P
  obtain ⟨h1, h2⟩ := anyEq_ok h
  have fin : ∀ (l : Addr) (items : Array Value) (vs : List V) (fp : List Addr), ub = .ref l → (if t then s.heap.IsTuple l items else s.heap.IsList l items) → Vals vs items.toList → RepL (glo X) H ys vs fp → ∃ (l : Addr) (items : Array Value) (e : Value → Bool), ub = .ref l ∧ (if t then s.heap.IsTuple l items else s.heap.IsList l items) ∧ (∀ u, u ∈ items → SeqAt.EqAt A.in1 s u ux (e u)) ∧ items.any e = r := by
    intro l items vs fp q1 q2 q3 q4
    obtain ⟨e, he, g⟩ := any_vals I hu rx ru ys vs items.toList fp q4 q3 h2
    refine ⟨l, items, e, q1, q2, fun u hm => he u (by simpa using hm), ?_⟩
    have ll : ys.length = items.toList.length := by
      have b := q3.length
      have c := q4.len
      omega
    have m := any_places ll g
    have : items.any e = items.toList.any e := by simp
    rw [this, h1]
    have m2 := congrArg (fun l : List Bool => l.any id) m
    simpa [List.any_map, Function.comp_def] using m2
  cases t with
  | false =>
    obtain ⟨l, its, vs, fp, q1, q2, q3, q4⟩ := P
    exact fin l its vs fp q1 q2 q3 q4
  | true =>
    obtain ⟨l, its, vs, fp, q1, q2, q3, q4⟩ := P
    exact fin l its vs fp q1 q2 q3 q4
theorem op_inP (C : XOk k X) : OpR X (compareOp .In) (rInP X false) := by
  intro pins s σ H x y v u Q I rx ry h
  obtain ⟨a, b, f, g, t, ys, r, ra, rb, hv, e, q⟩ := h
  obtain ⟨l, items, e2, h1, h2, h3, h4⟩ := in_core I C.u64 ra rx rb ry hv e
  subst h1
  have z : EP X pins σ Q (.bool (items.any e2)) s := ⟨.bl r, H, I, by rw [h4]; rfl, q⟩
  cases t with
  | false => exact SeqAt.in_listAt e2 (by simpa using h2) h3 z
  | true => exact SeqAt.in_tupleAt e2 (by simpa using h2) h3 z
theorem op_notInP (C : XOk k X) : OpR X (compareOp .NotIn) (rInP X true) := by
  intro pins s σ H x y v u Q I rx ry h
  obtain ⟨a, b, f, g, t, ys, r, ra, rb, hv, e, q⟩ := h
  obtain ⟨l, items, e2, h1, h2, h3, h4⟩ := in_core I C.u64 ra rx rb ry hv e
  subst h1
  have z : EP X pins σ Q (.bool (!items.any e2)) s := ⟨.bl (!r), H, I, by rw [h4]; rfl, q⟩
  cases t with
  | false => exact SeqAt.notIn_listAt e2 (by simpa using h2) h3 z
  | true => exact SeqAt.notIn_tupleAt e2 (by simpa using h2) h3 z
abbrev rInD (neg : Bool) : R2 := fun x y H Q => ∃ a o, y = .ref a ∧ DGet H a x o ∧ Q (.bl (if neg then !o.isSome else o.isSome)) H
theorem op_inDt (C : XOk k X) : OpR X (compareOp .In) (rInD false) := by
  intro pins s σ H x y v u Q I rx ry h
  obtain ⟨a, o, rfl, g, q⟩ := h
  cases ry
  exact d_in C.hu I g rx fun s3 I3 => ⟨.bl o.isSome, H, I3, rfl, q⟩
theorem op_notInDt (C : XOk k X) : OpR X (compareOp .NotIn) (rInD true) := by
  intro pins s σ H x y v u Q I rx ry h
  obtain ⟨a, o, rfl, g, q⟩ := h
  cases ry
  exact d_notIn C.hu I g rx fun s3 I3 => ⟨.bl (!o.isSome), H, I3, rfl, q⟩
abbrev rInS (neg : Bool) : R2 := fun x y H Q => ∃ (c : Nat) (z : Str), x = .str ⟨#[c]⟩ ∧ y = .str z ∧ Q (.bl (if neg then !decide (c ∈ z.cps.toList) else decide (c ∈ z.cps.toList))) H
abbrev rInA (X : Cx) (neg : Bool) : R2 := fun x y H Q => (rInP X neg x y H Q ∨ rInD neg x y H Q) ∨ rInS neg x y H Q
theorem op_inA (C : XOk k X) : OpR X (compareOp .In) (rInA X false) := OpR.or (OpR.or (op_inP C) (op_inDt C)) op_in_sign
theorem op_notInA (C : XOk k X) : OpR X (compareOp .NotIn) (rInA X true) := OpR.or (OpR.or (op_notInP C) (op_notInDt C)) op_notIn_sign
def rsB (neg b : Bool) : Rs := rsF (.bl (if neg then !b else b))
def gIn (neg : Bool) (ra rb : Rs) : Res Rs := match rb.d with
  | .str y => match ra.d with
    | .str [c] => .ok (rsB neg (decide (c ∈ y)))
    | _ => .no
  | .dic ks _ => match ra.d with
    | .str x => .ok (rsB neg (ks.contains x))
    | _ => .no
  | .lst ys => (anyEq ra.d ys).bind fun b => .ok (rsB neg b)
  | .rol ys => (anyEq ra.d ys).bind fun b => .ok (rsB neg b)
  | .tup ys => (anyEq ra.d ys).bind fun b => .ok (rsB neg b)
  | _ => .no
def dGet : List Tx → List Dat → Tx → Option Dat
  | k :: ks, d :: ds, x => if k = x then some d else dGet ks ds x
  | _, _, _ => none
theorem dGet_val {G : Glo} {H : Hp} : ∀ {ks : List Tx} {ds : List Dat} {vs : List V} {fp : List Addr} (x : Tx), RepL G H ds vs fp → ks.length = vs.length →
    (match dGet ks ds x with
      | some d => ∃ v f, valV (kvOf ks vs) (Sum.inr (mkS x) : Key) = some v ∧ Rep G H d v f ∧ ∀ a ∈ f, a ∈ fp
      | none => valV (kvOf ks vs) (Sum.inr (mkS x) : Key) = none)
  | [], ds, vs, fp, x, r, l => by
    have : dGet [] ds x = none := by cases ds <;> rfl
    rw [this]
    have : kvOf [] vs = [] := by cases vs <;> rfl
    rw [this]
    rfl
  | k :: ks, [], vs, fp, x, r, l => by
    simp only [RepL] at r
    rw [r.1] at l
    simp at l
  | k :: ks, d :: ds, vs, fp, x, r, l => by
    simp only [RepL] at r
    obtain ⟨v, vs', f, f', e1, e2, r1, rr⟩ := r
    subst e1
    subst e2
    by_cases h : k = x
    · subst h
      have e : dGet (k :: ks) (d :: ds) k = some d := by
        show (if k = k then some d else _) = _
        rw [if_pos rfl]
      rw [e]
      exact ⟨v, f, valV_pos (p := (Sum.inr (mkS k), v)) rfl, r1, fun a ha => by simp [ha]⟩
    · have e : dGet (k :: ks) (d :: ds) x = dGet ks ds x := by
        show (if k = x then some d else _) = _
        rw [if_neg h]
      have ev : valV (kvOf (k :: ks) (v :: vs')) (Sum.inr (mkS x) : Key) = valV (kvOf ks vs') (Sum.inr (mkS x)) := by
        show valV ((Sum.inr (mkS k), v) :: kvOf ks vs') _ = _
        unfold valV
        rw [List.find?_cons, show decide ((Sum.inr (mkS k) : Key) = Sum.inr (mkS x)) = false from decide_eq_false fun q => h (mkS_inj (Sum.inr.inj q))]
      rw [e, ev]
      have ih := dGet_val x rr (by simpa using l)
      cases e3 : dGet ks ds x with
      | none =>
        rw [e3] at ih
        exact ih
      | some y =>
        rw [e3] at ih
        obtain ⟨v1, f1, q1, q2, q3⟩ := ih
        exact ⟨v1, f1, q1, q2, fun a ha => by simp [q3 a ha]⟩
theorem dGet_has : ∀ {ks : List Tx} {ds : List Dat} (x : Tx), ks.length = ds.length → (dGet ks ds x).isSome = ks.contains x
  | [], ds, x, _ => by
    have : dGet [] ds x = none := by cases ds <;> rfl
    rw [this]
    simp
  | k :: ks, [], x, l => by simp at l
  | k :: ks, d :: ds, x, l => by
    show (if k = x then some d else dGet ks ds x).isSome = _
    by_cases h : k = x
    · rw [if_pos h]
      simp [h]
    · rw [if_neg h, dGet_has x (by simpa using l)]
      simp [Ne.symm h]
theorem ops_in {neg : Bool} : OpS X (rInA X neg) (gIn neg) := by
  intro W H0 H F σ ra rb x y fa fb Q s0 tr ga gb o
  have pa := ga.rep
  have pb := gb.rep
  have seq : ∀ (t : Bool) (ys : List Dat), vw rb.d = .seq t ys → Out X W H0 H F σ ((anyEq ra.d ys).bind fun b => .ok (rsB neg b)) Q → rInA X neg x y H Q := by
    intro t ys hv o
    cases e : anyEq ra.d ys with
    | no =>
      rw [e] at o
      exact o.elim
    | exc c => exact (anyEq_exc e).elim
    | ok b =>
      rw [e] at o
      have o : Out X W H0 H F σ (.ok (rsB neg b)) Q := o
      exact .inl (.inl ⟨ra.d, rb.d, fa, fb, t, ys, b, pa, pb, hv, e, o.flat mk_bl⟩)
  unfold gIn at o
  cases eb : rb.d with
  | lst ys =>
    simp only [eb] at o
    exact seq false ys (by rw [eb]; rfl) o
  | rol ys =>
    simp only [eb] at o
    exact seq false ys (by rw [eb]; rfl) o
  | tup ys =>
    simp only [eb] at o
    exact seq true ys (by rw [eb]; rfl) o
  | str z =>
    simp only [eb] at o
    rw [eb] at pb
    split at o
    · rename_i c ea
      rw [ea] at pa
      refine .inr ⟨c, mkS z, rep_str pa, rep_str pb, ?_⟩
      rw [mkS_cps]
      exact o.flat mk_bl
    · exact o.elim
  | dic ks ds =>
    simp only [eb] at o
    rw [eb] at pb
    simp only [Rep] at pb
    obtain ⟨a, vs, f, ey, hd, l, r, _⟩ := pb
    split at o
    · rename_i z ea
      rw [ea] at pa
      refine .inl (.inr ⟨a, valV (kvOf ks vs) (Sum.inr (mkS z)), ey, ?_, ?_⟩)
      · rw [rep_str pa]
        exact .inl ⟨_, Sum.inr (mkS z), hd, rfl, rfl⟩
      · have e1 := dGet_val z r l
        have e2 := dGet_has (ks := ks) (ds := ds) z (by rw [l, r.len])
        have e3 : (valV (kvOf ks vs) (Sum.inr (mkS z) : Key)).isSome = ks.contains z := by
          rw [← e2]
          cases e4 : dGet ks ds z with
          | none =>
            rw [e4] at e1
            rw [e1]
            rfl
          | some d =>
            rw [e4] at e1
            obtain ⟨v, _, q, _⟩ := e1
            rw [q]
            rfl
        rw [e3]
        exact o.flat mk_bl
    · exact o.elim
  | _ =>
    simp only [eb] at o
    exact o.elim
theorem ev_in (C : XOk k X) {a b : Expr} {pos : Pos} {fa fb : Sto → Res Rs} (ha : Ev X W a fa) (hb : Ev X W b fb) (hm : behindInMarks .In b = false := by rfl) : Ev X W (.Compare a [.In] [b] pos) (fBin (gIn false) fa fb) := ev_cmp (op_inA C) ops_in ha hb hm
theorem ev_notIn (C : XOk k X) {a b : Expr} {pos : Pos} {fa fb : Sto → Res Rs} (ha : Ev X W a fa) (hb : Ev X W b fb) (hm : behindInMarks .NotIn b = false := by rfl) : Ev X W (.Compare a [.NotIn] [b] pos) (fBin (gIn true) fa fb) := ev_cmp (op_notInA C) ops_in ha hb hm

/-- a part of it -/
def pick (r : Rs) (d : Dat) : Rs := if flat d then rsF d else ⟨d, false, r.src, none⟩
theorem pick_out {W : WX} {H0 H : Hp} {F : Fp} {r : Rs} {d : Dat} {x v : V} {fp f : List Addr} {Q : VK} (g : Gv (glo X) H0 F r x H fp) (h : Rep (glo X) H d v f) (hf : ∀ a ∈ f, a ∈ fp) (o : Out X W H0 H F σ (.ok (pick r d)) Q) : Q v H := by
  unfold pick at o
  by_cases e : flat d = true
  · rw [if_pos e] at o
    have := Rep.flat _ _ _ h e
    subst this
    exact o.flat h
  · rw [if_neg e] at o
    exact o v H f (Same.refl H) ⟨h, ⟨fun a ha => g.prv.src a (hf a ha), (fun z => nomatch z), (fun m z => nomatch z)⟩⟩
def dAt (xs : List Dat) (i : Int) : Option Dat := (ixN xs.length i).bind fun j => xs[j]?
def gSubs (ra rb : Rs) : Res Rs := match ra.d, rb.d with
  | .lst xs, .int i => match dAt xs i with
    | some d => .ok (pick ra d)
    | none => .no
  | .rol xs, .int i => match dAt xs i with
    | some d => .ok (pick ra d)
    | none => .no
  | .tup xs, .int i => match dAt xs i with
    | some d => .ok (pick ra d)
    | none => .no
  | .str x, .int i => match (ixN x.length i).bind (fun j => x[j]?) with
    | some c => if x.length ≤ 1000000 then .ok (rsF (.str [c])) else .no
    | none => .no
  | .dic ks ds, .str x => match dGet ks ds x with
    | some d => .ok (pick ra d)
    | none => .no
  | _, _ => .no
theorem dAt_vals {G : Glo} {H : Hp} {ds : List Dat} {vs : List V} {fp : List Addr} {i : Int} {d : Dat} (r : RepL G H ds vs fp) (h : dAt ds i = some d) : ∃ v f, atI vs i = some v ∧ Rep G H d v f ∧ ∀ a ∈ f, a ∈ fp := by
  unfold dAt at h
  unfold atI
  rw [r.len]
  cases e : ixN ds.length i with
  | none =>
    rw [e] at h
    cases h
  | some j =>
    rw [e] at h
    exact r.at h
theorem ev_subs (C : XOk k X) {a b : Expr} {pos : Pos} {fa fb : Sto → Res Rs} (ha : Ev X W a fa) (hb : Ev X W b fb) (h1 : PlainIx b := by exact fun _ _ => rfl) (h2 : NoSl b := by exact fun _ _ => rfl) : Ev X W (.Subscript a b pos) (fBin gSubs fa fb) := by
  refine ⟨weakE (pe_orE (pe_ix ix_seq ha.pe hb.pe h1) (pe_dget C.hu ha.pe hb.pe h2)) fun σ H Q ⟨E, F, re, o⟩ => ?_⟩
  -- which of the two: by the data
  by_cases hd : ∃ ra ks ds, fa E = .ok ra ∧ ra.d = .dic ks ds
  · right
    obtain ⟨ra0, ks, ds, ea, ed⟩ := hd
    refine seqE re (Same.refl H) o fun ra x H1 f1 e1 s1 g1 o1 => ?_
    rw [ea] at e1
    cases e1
    refine seqE (re.same s1) s1 o1 fun rb y H2 f2 e2 s2 g2 o2 => ?_
    have pa := (g1.same s2).rep
    have pb := g2.rep
    unfold gSubs at o2
    rw [ed] at pa
    simp only [Rep] at pa
    obtain ⟨a', vs, f, ex, hr, l, r, ef⟩ := pa
    cases eb : rb.d <;> simp only [ed, eb] at o2 <;> first | exact o2.elim | skip
    rename_i z
    rw [eb] at pb
    have e3 := dGet_val z r l
    cases e4 : dGet ks ds z with
    | none =>
      simp only [e4] at o2
      exact o2.elim
    | some d =>
      simp only [e4] at o2 e3
      obtain ⟨v, f3, q1, q2, q3⟩ := e3
      refine ⟨a', v, ex, ?_, pick_out (g1.same s2) q2 (fun c hc => by simp [ef, q3 c hc]) o2⟩
      rw [rep_str pb]
      exact .inl ⟨_, Sum.inr (mkS z), hr, rfl, q1.symm⟩
  · left
    refine seqE re (Same.refl H) o fun ra x H1 f1 e1 s1 g1 o1 => ?_
    refine seqE (re.same s1) s1 o1 fun rb y H2 f2 e2 s2 g2 o2 => ?_
    have ga := g1.same s2
    have pa := ga.rep
    have pb := g2.rep
    unfold gSubs at o2
    cases ea : ra.d with
    | lst xs =>
      cases eb : rb.d <;> simp only [ea, eb] at o2 <;> first | exact o2.elim | skip
      rename_i i
      rw [ea] at pa
      rw [eb] at pb
      obtain ⟨a', vs, f', e5, h5, r5, z5⟩ := rep_lst pa
      cases e4 : dAt xs i with
      | none =>
        simp only [e4] at o2
        exact o2.elim
      | some d =>
        simp only [e4] at o2
        obtain ⟨v, f, q1, q2, q3⟩ := dAt_vals r5 e4
        exact .inl ⟨a', vs, _, v, e5, rep_int pb, .inl (.inl h5), q1, pick_out ga q2 (fun c hc => by simp [z5, q3 c hc]) o2⟩
    | rol xs =>
      cases eb : rb.d <;> simp only [ea, eb] at o2 <;> first | exact o2.elim | skip
      rename_i i
      rw [eb] at pb
      obtain ⟨a', vs, f', e5, h5, r5, z5⟩ := pa.seqL (xs := xs) (by rw [ea]; rfl)
      cases e4 : dAt xs i with
      | none =>
        simp only [e4] at o2
        exact o2.elim
      | some d =>
        simp only [e4] at o2
        obtain ⟨v, f, q1, q2, q3⟩ := dAt_vals r5 e4
        exact .inl ⟨a', vs, _, v, e5, rep_int pb, h5, q1, pick_out ga q2 (fun c hc => z5 _ (q3 c hc)) o2⟩
    | tup xs =>
      cases eb : rb.d <;> simp only [ea, eb] at o2 <;> first | exact o2.elim | skip
      rename_i i
      rw [eb] at pb
      obtain ⟨a', vs, e5, h5, r5⟩ := pa.seqT (xs := xs) (by rw [ea]; rfl)
      cases e4 : dAt xs i with
      | none =>
        simp only [e4] at o2
        exact o2.elim
      | some d =>
        simp only [e4] at o2
        obtain ⟨v, f, q1, q2, q3⟩ := dAt_vals r5 e4
        exact .inr (.inl ⟨a', vs, _, v, e5, rep_int pb, h5, q1, pick_out ga q2 q3 o2⟩)
    | str z =>
      cases eb : rb.d <;> simp only [ea, eb] at o2 <;> first | exact o2.elim | skip
      rename_i i
      rw [ea] at pa
      rw [eb] at pb
      cases e4 : (ixN z.length i).bind (fun j => z[j]?) with
      | none =>
        simp only [e4] at o2
        exact o2.elim
      | some c =>
        simp only [e4] at o2
        by_cases hl : z.length ≤ 1000000
        · rw [if_pos hl] at o2
          refine .inr (.inr ⟨mkS z, i, c, rep_str pa, rep_int pb, by rw [mkS_len]; exact sizeLine_le hl, ?_, o2.flat mk_str⟩)
          rw [mkS_cps]
          exact e4
        · rw [if_neg hl] at o2
          exact o2.elim
    | dic ks ds => exact absurd ⟨ra, ks, ds, e1, ea⟩ hd
    | _ =>
      cases eb : rb.d <;> simp only [ea, eb] at o2 <;> exact o2.elim
end
end PV

namespace PV
open PySem PySem.Spec L2
section
variable {X : Cx} {pins : List (Addr × Obj)} {σ : L2.St} {H : Hp} {s : Shared} {W : WX} {k : Nat}

def OutO (X : Cx) (W : WX) (H : Hp) (σ : L2.St) (o : Res (Option Int)) (Q : Option Int → Hp → Prop) : Prop := match o with
  | .ok i => ∀ H', Same H H' → Q i H'
  | .exc c => ∀ C H', X.mg (mkS c) = some (.ref C) → Same H H' → W (.ref C) none σ H'
  | .no => False
def tEo (X : Cx) (W : WX) (f : Sto → Res (Option Int)) : TO := fun σ H Q => ∃ E F, RepE (glo X) H E σ F ∧ OutO X W H σ (f E) Q
structure Eo (X : Cx) (W : WX) (e : Option Expr) (f : Sto → Res (Option Int)) : Prop where
  po : PO X e (tEo X W f)
def oNone : Sto → Res (Option Int) := fun _ => .ok none
def oSome (f : Sto → Res Rs) : Sto → Res (Option Int) := fun E => (f E).bind fun r => match r.d with
  | .int i => .ok (some i)
  | _ => .no
theorem eo_none : Eo X W none oNone := ⟨⟨fun pins s σ H Q I ⟨E, F, re, o⟩ => (po_none (X := X)).run pins s σ H Q I (o H (Same.refl H))⟩⟩
theorem eo_some {e : Expr} {f : Sto → Res Rs} (h : Ev X W e f) : Eo X W (some e) (oSome f) := by
  refine ⟨⟨fun pins s σ H Q I ⟨E, F, re, o⟩ => (po_some h.pe).run pins s σ H Q I ?_⟩⟩
  refine ⟨E, F, re, ?_⟩
  unfold oSome at o
  cases e1 : f E with
  | no =>
    rw [e1] at o
    exact o
  | exc c =>
    rw [e1] at o
    exact o
  | ok r =>
    rw [e1] at o
    intro v H1 fp s1 g
    have p := g.rep
    cases ed : r.d <;> simp only [bind_ok, ed] at o <;> first | exact o.elim | skip
    rw [ed] at p
    exact ⟨_, rep_int p, o H1 s1⟩
def cutD {α : Type} (xs : List α) (lo hi : Option Int) : List α := (xs.drop (HT.sIx xs.length 0 lo)).take (HT.sIx xs.length xs.length hi - HT.sIx xs.length 0 lo)
def gSl (r : Rs) (lo hi : Option Int) : Res Rs := match r.d with
  | .lst xs => if xs.length ≤ 1000000 then .ok (rNewL (cutD xs lo hi) r.src) else .no
  | .rol xs => if xs.length ≤ 1000000 then .ok (rNewL (cutD xs lo hi) r.src) else .no
  | .str x => if x.length ≤ 1000000 then .ok (rsF (.str (cutD x lo hi))) else .no
  | _ => .no
def fSl (f : Sto → Res Rs) (lo hi : Sto → Res (Option Int)) : Sto → Res Rs := fun E => (f E).bind fun r => (lo E).bind fun l => (hi E).bind fun h => gSl r l h
theorem cut_reps {G : Glo} {H : Hp} {ds : List Dat} {vs : List V} {fp : List Addr} (r : RepL G H ds vs fp) (lo hi : Option Int) : ∃ f, RepL G H (cutD ds lo hi) (cutV vs lo hi) f ∧ ∀ a ∈ f, a ∈ fp := by
  unfold cutD cutV
  rw [r.len]
  obtain ⟨f1, r1, h1⟩ := r.drop (HT.sIx ds.length 0 lo)
  obtain ⟨f2, r2, h2⟩ := r1.take (HT.sIx ds.length ds.length hi - HT.sIx ds.length 0 lo)
  exact ⟨f2, r2, fun a ha => h1 a (h2 a ha)⟩
theorem cutS_eq (x : Tx) (lo hi : Option Int) : cutS (mkS x) lo hi = mkS (cutD x lo hi) := by
  unfold cutS cutD
  rw [mkS_len, mkS_cps]
  rfl
theorem seqEO {f : Sto → Res (Option Int)} {E : Sto} {F : Fp} {σ : L2.St} {H0 H : Hp} {kk : Option Int → Res Rs} {Q : VK} {Q' : Option Int → Hp → Prop} (re : RepE (glo X) H E σ F) (o : Out X W H0 H F σ ((f E).bind kk) Q)
    (h : ∀ b H1, f E = .ok b → Same H H1 → Out X W H0 H1 F σ (kk b) Q → Q' b H1) : tEo X W f σ H Q' := by
  refine ⟨E, F, re, ?_⟩
  cases e : f E with
  | no =>
    rw [e] at o
    exact o
  | exc c =>
    rw [e] at o
    exact o
  | ok b =>
    intro H1 s1
    rw [e] at o
    exact h b H1 e s1 (Out.mono (show Out X W H0 H F σ (kk b) Q from o) s1)
theorem ev_sl {e : Expr} {lo hi : Option Expr} {p2 pos : Pos} {f : Sto → Res Rs} {fl fh : Sto → Res (Option Int)} (he : Ev X W e f) (hl : Eo X W lo fl) (hh : Eo X W hi fh) : Ev X W (.Subscript e (.Slice lo hi none p2) pos) (fSl f fl fh) := by
  refine ⟨weakE (pe_slice (SlR.or sl_list sl_str) he.pe hl.po hh.po) fun σ H Q ⟨E, F, re, o⟩ => ?_⟩
  refine seqE re (Same.refl H) o fun r x H1 f1 e1 s1 g1 o1 => ?_
  refine seqEO (re.same s1) o1 fun l H2 e2 s2 o2 => ?_
  refine seqEO ((re.same s1).same s2) o2 fun h H3 e3 s3 o3 => ?_
  have s13 := s1.trans (s2.trans s3)
  have g := g1.same (s2.trans s3)
  have p := g.rep
  unfold gSl at o3
  cases ed : r.d with
  | lst xs =>
    simp only [ed] at o3
    rw [ed] at p
    obtain ⟨a, vs, f', ex, hv, rr, z⟩ := rep_lst p
    by_cases hn : xs.length ≤ 1000000
    · rw [if_pos hn] at o3
      obtain ⟨fc, rc, hc⟩ := cut_reps rr l h
      exact .inl ⟨a, vs, ex, .inl (.inl hv), fun q hq => o3 _ _ _ (same_new hq) (Gv.newL s13 rc hq fun c hc' => g.prv.src c (by simp [z, hc c hc']))⟩
    · rw [if_neg hn] at o3
      exact o3.elim
  | rol xs =>
    simp only [ed] at o3
    obtain ⟨a, vs, f', ex, hv, rr, z⟩ := p.seqL (xs := xs) (by rw [ed]; rfl)
    by_cases hn : xs.length ≤ 1000000
    · rw [if_pos hn] at o3
      obtain ⟨fc, rc, hc⟩ := cut_reps rr l h
      exact .inl ⟨a, vs, ex, hv, fun q hq => o3 _ _ _ (same_new hq) (Gv.newL s13 rc hq fun c hc' => g.prv.src c (z c (hc c hc')))⟩
    · rw [if_neg hn] at o3
      exact o3.elim
  | str z =>
    simp only [ed] at o3
    rw [ed] at p
    by_cases hn : z.length ≤ 1000000
    · rw [if_pos hn] at o3
      refine .inr ⟨mkS z, rep_str p, by rw [mkS_len]; exact sizeLine_le hn, ?_⟩
      rw [cutS_eq]
      exact o3.flat mk_str
    · rw [if_neg hn] at o3
      exact o3.elim
  | _ =>
    simp only [ed] at o3
    exact o3.elim
def gRev (r : Rs) : Res Rs := match r.d with
  | .lst xs => .ok (rNewL xs.reverse r.src)
  | .rol xs => .ok (rNewL xs.reverse r.src)
  | _ => .no
def fOne (g : Rs → Res Rs) (f : Sto → Res Rs) : Sto → Res Rs := fun E => (f E).bind g
theorem ev_rev {e : Expr} {kk : Nat} {p1 p2 p3 pos : Pos} {f : Sto → Res Rs} (he : Ev X W e f) : Ev X W (.Subscript e (.Slice none none (some (.UnaryOp .USub (.Constant (.int 1) kk p1) p2)) p3) pos) (fOne gRev f) := by
  refine ⟨weakE (pe_revL he.pe) fun σ H Q ⟨E, F, re, o⟩ => ?_⟩
  refine seqE re (Same.refl H) o fun r x H1 f1 e1 s1 g o1 => ?_
  have p := g.rep
  unfold gRev at o1
  have fin : ∀ (xs : List Dat) (a : Addr) (vs : List V) (f' : List Addr), x = .ref a → SqL X.K H1 a vs → RepL (glo X) H1 xs vs f' → (∀ b ∈ f', b ∈ f1) → Out X W H H1 F σ (.ok (rNewL xs.reverse r.src)) Q → ∃ a xs, x = .ref a ∧ SqL X.K H1 a xs ∧ ∀ p, H1 p = none → Q (.ref p) (upd H1 p (.lst xs.reverse)) := by
    intro xs a vs f' ex hv rr hz o2
    obtain ⟨fr, r2, pr⟩ := rr.rev
    exact ⟨a, vs, ex, hv, fun q hq => o2 _ _ _ (same_new hq) (Gv.newL s1 r2 hq fun c hc => g.prv.src c (hz c (pr.mem_iff.mp hc)))⟩
  cases ed : r.d with
  | lst xs =>
    simp only [ed] at o1
    obtain ⟨a, vs, f', ex, hv, rr, z⟩ := p.seqL (xs := xs) (by rw [ed]; rfl)
    exact fin xs a vs f' ex hv rr z o1
  | rol xs =>
    simp only [ed] at o1
    obtain ⟨a, vs, f', ex, hv, rr, z⟩ := p.seqL (xs := xs) (by rw [ed]; rfl)
    exact fin xs a vs f' ex hv rr z o1
  | _ =>
    simp only [ed] at o1
    exact o1.elim

def FnS (X : Cx) (r : List V → Hp → VK → Prop) (g : Rs → Res Rs) : Prop := ∀ (W : WX) (H0 H : Hp) (F : Fp) (σ : L2.St) (ra : Rs) (x : V) (fa : List Addr) (Q : VK),
  Same H0 H → (∀ i, ∀ a ∈ F i, H0 a ≠ none) → Gv (glo X) H0 F ra x H fa → Out X W H0 H F σ (g ra) Q → r [x] H Q
theorem one_arg {e : Expr} {f : Sto → Res Rs} {r : List V → Hp → VK → Prop} {g : Rs → Res Rs} (hg : FnS X r g) {σ : L2.St} {H : Hp} {Q : VK} (h : tEv X W (fOne g f) σ H Q) : tCB r (tCons (tEv X W f) tNil) σ H Q := by
  obtain ⟨E, F, re, o⟩ := h
  refine seqE re (Same.refl H) o fun ra x H1 f1 e1 s1 g1 o1 => ?_
  exact hg W H H1 F σ ra x f1 Q s1 (fun i => re.trk i) g1 o1
theorem ev_fn1 {id : String} {x : Str} {p pos : Pos} {e : Expr} {f : Sto → Res Rs} {r : List V → Hp → VK → Prop} {g : Rs → Res Rs} (hc : CallR X (.builtin id) r) (hg : FnS X r g) (hgl : Gl X x) (hm : X.mg x = none) (hv : bootBuiltins x = some (.builtin id)) (he : Ev X W e f)
    (hn : x ≠ "__name__" := by decide) (hdb : (x == ("__debug__" : Str)) = false := by decide) (hs : starEach [e] X.env = (false, eval e X.env) :: starEach [] X.env := by rfl) : Ev X W (.Call (.Name x p) [e] [] pos) (fOne g f) :=
  ⟨weakE (pe_callB hc hgl hm hv (pa_cons he.pe pa_nil hs) hn hdb hs) fun σ H Q h => one_arg (e := e) hg h⟩
theorem ev_ty1 {T : String} {x : Str} {p pos : Pos} {e : Expr} {f : Sto → Res Rs} {r : List V → Hp → VK → Prop} {g : Rs → Res Rs} (hc : CallR X (.type T) r) (hg : FnS X r g) (hgl : Gl X x) (hm : X.mg x = none) (hv : bootBuiltins x = some (.type T)) (he : Ev X W e f)
    (hn : x ≠ "__name__" := by decide) (hdb : (x == ("__debug__" : Str)) = false := by decide) (hs : starEach [e] X.env = (false, eval e X.env) :: starEach [] X.env := by rfl) : Ev X W (.Call (.Name x p) [e] [] pos) (fOne g f) :=
  ⟨weakE (pe_callTy hc hgl hm hv (pa_cons he.pe pa_nil hs) hn hdb hs) fun σ H Q h => one_arg (e := e) hg h⟩
def gLen (r : Rs) : Res Rs := match r.d with
  | .lst xs => .ok (rsF (.int xs.length))
  | .rol xs => .ok (rsF (.int xs.length))
  | .tup xs => .ok (rsF (.int xs.length))
  | .str x => if x.length ≤ 1000000 then .ok (rsF (.int x.length)) else .no
  | .dic ks _ => .ok (rsF (.int ks.length))
  | _ => .no
theorem call_lenR : CallR X (.builtin "len") (fun xs H Q => ∃ a kvs, xs = [V.ref a] ∧ Rd H a (.dK kvs) ∧ Q (.int kvs.length) H) := by
  intro pins s σ H xs us Q I r h
  obtain ⟨a, kvs, rfl, ha, q⟩ := h
  obtain ⟨u, rfl, ru⟩ := vals1 r
  cases ru
  exact d_len I ha fun t s' I' => ⟨.int kvs.length, H, I', ⟨t, rfl⟩, q⟩
abbrev rLenA (X : Cx) : List V → Hp → VK → Prop := fun xs H Q => (∃ x n, xs = [x] ∧ LenV X.K x H n ∧ Q (.int n) H) ∨ (∃ a kvs, xs = [V.ref a] ∧ Rd H a (.dK kvs) ∧ Q (.int kvs.length) H)
theorem call_lenA : CallR X (.builtin "len") (rLenA X) := CallR.or call_len call_lenR
theorem fns_len : FnS X (rLenA X) gLen := by
  intro W H0 H F σ ra x fa Q s0 tr g o
  have p := g.rep
  unfold gLen at o
  cases ed : ra.d with
  | lst xs =>
    simp only [ed] at o
    obtain ⟨a, vs, f', ex, hv, rr, z⟩ := p.seqL (xs := xs) (by rw [ed]; rfl)
    subst ex
    exact .inl ⟨_, xs.length, rfl, .inl ⟨vs, hv, rr.len.symm⟩, o.flat mk_int⟩
  | rol xs =>
    simp only [ed] at o
    obtain ⟨a, vs, f', ex, hv, rr, z⟩ := p.seqL (xs := xs) (by rw [ed]; rfl)
    subst ex
    exact .inl ⟨_, xs.length, rfl, .inl ⟨vs, hv, rr.len.symm⟩, o.flat mk_int⟩
  | tup xs =>
    simp only [ed] at o
    obtain ⟨a, vs, ex, hv, rr⟩ := p.seqT (xs := xs) (by rw [ed]; rfl)
    subst ex
    exact .inl ⟨_, xs.length, rfl, .inr ⟨vs, hv, rr.len.symm⟩, o.flat mk_int⟩
  | str z =>
    simp only [ed] at o
    rw [ed] at p
    by_cases h : z.length ≤ 1000000
    · rw [if_pos h] at o
      rw [rep_str p]
      exact .inl ⟨_, z.length, rfl, ⟨by rw [mkS_len]; exact sizeLine_le h, (mkS_len z).symm⟩, o.flat mk_int⟩
    · rw [if_neg h] at o
      exact o.elim
  | dic ks ds =>
    simp only [ed] at o
    rw [ed] at p
    simp only [Rep] at p
    obtain ⟨a, vs, f, ex, hd, l, r, _⟩ := p
    subst ex
    refine .inr ⟨a, _, rfl, hd, ?_⟩
    rw [kvOf_len l]
    exact o.flat mk_int
  | _ =>
    simp only [ed] at o
    exact o.elim
theorem ev_len {p pos : Pos} {e : Expr} {f : Sto → Res Rs} (hm : X.mg "len" = none) (he : Ev X W e f) (hgl : Gl X "len" := by rfl) (hs : starEach [e] X.env = (false, eval e X.env) :: starEach [] X.env := by rfl) : Ev X W (.Call (.Name "len" p) [e] [] pos) (fOne gLen f) :=
  ev_fn1 call_lenA fns_len hgl hm PySem.boot_len he (by decide) (by decide) hs
def intsOf : List Dat → Option (List Int)
  | [] => some []
  | .int i :: r => (intsOf r).map fun l => i :: l
  | _ :: _ => none
def blsOf : List Dat → Option (List Bool)
  | [] => some []
  | .bl i :: r => (blsOf r).map fun l => i :: l
  | _ :: _ => none
def strsOf : List Dat → Option (List Tx)
  | [] => some []
  | .str i :: r => (strsOf r).map fun l => i :: l
  | _ :: _ => none
theorem intsOf_reps {G : Glo} {H : Hp} : ∀ {ds : List Dat} {vs : List V} {fp : List Addr} {ns : List Int}, RepL G H ds vs fp → intsOf ds = some ns → vs = ns.map V.int ∧ fp = []
  | [], vs, fp, ns, r, e => by
    simp only [RepL] at r
    simp only [intsOf] at e
    cases e
    exact r
  | d :: ds, vs, fp, ns, r, e => by
    simp only [RepL] at r
    obtain ⟨v, vs', f, f', e1, e2, r1, rr⟩ := r
    cases d <;> simp only [intsOf] at e <;> first | cases e | skip
    rename_i i
    cases e3 : intsOf ds with
    | none =>
      rw [e3] at e
      cases e
    | some l =>
      rw [e3] at e
      have e : some (i :: l) = some ns := e
      injection e with e
      subst e
      obtain ⟨q1, q2⟩ := intsOf_reps rr e3
      simp only [Rep] at r1
      rw [e1, e2, q1, q2, r1.1, r1.2]
      exact ⟨rfl, rfl⟩
theorem blsOf_reps {G : Glo} {H : Hp} : ∀ {ds : List Dat} {vs : List V} {fp : List Addr} {ns : List Bool}, RepL G H ds vs fp → blsOf ds = some ns → vs = ns.map V.bl ∧ fp = []
  | [], vs, fp, ns, r, e => by
    simp only [RepL] at r
    simp only [blsOf] at e
    cases e
    exact r
  | d :: ds, vs, fp, ns, r, e => by
    simp only [RepL] at r
    obtain ⟨v, vs', f, f', e1, e2, r1, rr⟩ := r
    cases d <;> simp only [blsOf] at e <;> first | cases e | skip
    rename_i i
    cases e3 : blsOf ds with
    | none =>
      rw [e3] at e
      cases e
    | some l =>
      rw [e3] at e
      have e : some (i :: l) = some ns := e
      injection e with e
      subst e
      obtain ⟨q1, q2⟩ := blsOf_reps rr e3
      simp only [Rep] at r1
      rw [e1, e2, q1, q2, r1.1, r1.2]
      exact ⟨rfl, rfl⟩
theorem strsOf_reps {G : Glo} {H : Hp} : ∀ {ds : List Dat} {vs : List V} {fp : List Addr} {ns : List Tx}, RepL G H ds vs fp → strsOf ds = some ns → vs = (ns.map mkS).map V.str ∧ fp = []
  | [], vs, fp, ns, r, e => by
    simp only [RepL] at r
    simp only [strsOf] at e
    cases e
    exact r
  | d :: ds, vs, fp, ns, r, e => by
    simp only [RepL] at r
    obtain ⟨v, vs', f, f', e1, e2, r1, rr⟩ := r
    cases d <;> simp only [strsOf] at e <;> first | cases e | skip
    rename_i i
    cases e3 : strsOf ds with
    | none =>
      rw [e3] at e
      cases e
    | some l =>
      rw [e3] at e
      have e : some (i :: l) = some ns := e
      injection e with e
      subst e
      obtain ⟨q1, q2⟩ := strsOf_reps rr e3
      simp only [Rep] at r1
      rw [e1, e2, q1, q2, r1.1, r1.2]
      exact ⟨rfl, rfl⟩
theorem strs_reps {G : Glo} {H : Hp} : ∀ ns : List Tx, RepL G H (ns.map Dat.str) ((ns.map mkS).map V.str) []
  | [] => RepL.nil
  | n :: ns => RepL.cons (f := []) (f' := []) (by simp [Rep]) (strs_reps ns)
theorem ints_reps {G : Glo} {H : Hp} : ∀ ns : List Int, RepL G H (ns.map Dat.int) (ns.map V.int) []
  | [] => RepL.nil
  | n :: ns => RepL.cons (f := []) (f' := []) (by simp [Rep]) (ints_reps ns)
/-- the items of a list or a tuple -/
def seqOf : Dat → Option (List Dat)
  | .lst xs => some xs
  | .rol xs => some xs
  | _ => none
theorem seqOf_vw {d : Dat} {xs : List Dat} (h : seqOf d = some xs) : vw d = .seq false xs := by
  cases d <;> simp only [seqOf] at h <;> cases h <;> rfl
def gSum (r : Rs) : Res Rs := match (seqOf r.d).bind intsOf with
  | some ns => .ok (rsF (.int ns.sum))
  | none => .no
theorem fns_sum : FnS X (rSum X.K) gSum := by
  intro W H0 H F σ ra x fa Q s0 tr g o
  unfold gSum at o
  cases e1 : seqOf ra.d with
  | none =>
    rw [e1] at o
    exact o.elim
  | some xs =>
    obtain ⟨a, vs, f', ex, hv, rr, z⟩ := g.rep.seqL (seqOf_vw e1)
    rw [e1] at o
    cases e2 : intsOf xs with
    | none =>
      simp only [Option.bind_some, e2] at o
      exact o.elim
    | some ns =>
      simp only [Option.bind_some, e2] at o
      obtain ⟨q1, _⟩ := intsOf_reps rr e2
      subst ex
      rw [q1] at hv
      exact ⟨a, ns, rfl, hv, o.flat mk_int⟩
theorem ev_sum (C : XOk k X) {p pos : Pos} {e : Expr} {f : Sto → Res Rs} (hm : X.mg "sum" = none) (he : Ev X W e f) (hgl : Gl X "sum" := by rfl) (hs : starEach [e] X.env = (false, eval e X.env) :: starEach [] X.env := by rfl) : Ev X W (.Call (.Name "sum" p) [e] [] pos) (fOne gSum f) :=
  ev_fn1 (cr_sum C.calm) fns_sum hgl hm (by decide +kernel) he (by decide) (by decide) hs
def gAll (r : Rs) : Res Rs := match (seqOf r.d).bind blsOf with
  | some bs => .ok (rsF (.bl (bs.all id)))
  | none => .no
def gAny (r : Rs) : Res Rs := match (seqOf r.d).bind blsOf with
  | some bs => .ok (rsF (.bl (bs.any id)))
  | none => .no
theorem fns_all : FnS X (rAll X.K) gAll := by
  intro W H0 H F σ ra x fa Q s0 tr g o
  unfold gAll at o
  cases e1 : seqOf ra.d with
  | none =>
    rw [e1] at o
    exact o.elim
  | some xs =>
    obtain ⟨a, vs, f', ex, hv, rr, z⟩ := g.rep.seqL (seqOf_vw e1)
    rw [e1] at o
    cases e2 : blsOf xs with
    | none =>
      simp only [Option.bind_some, e2] at o
      exact o.elim
    | some ns =>
      simp only [Option.bind_some, e2] at o
      obtain ⟨q1, _⟩ := blsOf_reps rr e2
      subst ex
      rw [q1] at hv
      exact ⟨a, ns, rfl, hv, o.flat mk_bl⟩
theorem fns_any : FnS X (rAny X.K) gAny := by
  intro W H0 H F σ ra x fa Q s0 tr g o
  unfold gAny at o
  cases e1 : seqOf ra.d with
  | none =>
    rw [e1] at o
    exact o.elim
  | some xs =>
    obtain ⟨a, vs, f', ex, hv, rr, z⟩ := g.rep.seqL (seqOf_vw e1)
    rw [e1] at o
    cases e2 : blsOf xs with
    | none =>
      simp only [Option.bind_some, e2] at o
      exact o.elim
    | some ns =>
      simp only [Option.bind_some, e2] at o
      obtain ⟨q1, _⟩ := blsOf_reps rr e2
      subst ex
      rw [q1] at hv
      exact ⟨a, ns, rfl, hv, o.flat mk_bl⟩
theorem ev_all (C : XOk k X) {p pos : Pos} {e : Expr} {f : Sto → Res Rs} (hm : X.mg "all" = none) (he : Ev X W e f) (hgl : Gl X "all" := by rfl) (hs : starEach [e] X.env = (false, eval e X.env) :: starEach [] X.env := by rfl) : Ev X W (.Call (.Name "all" p) [e] [] pos) (fOne gAll f) :=
  ev_fn1 (cr_all C.calm) fns_all hgl hm (by decide +kernel) he (by decide) (by decide) hs
theorem ev_any (C : XOk k X) {p pos : Pos} {e : Expr} {f : Sto → Res Rs} (hm : X.mg "any" = none) (he : Ev X W e f) (hgl : Gl X "any" := by rfl) (hs : starEach [e] X.env = (false, eval e X.env) :: starEach [] X.env := by rfl) : Ev X W (.Call (.Name "any" p) [e] [] pos) (fOne gAny f) :=
  ev_fn1 (cr_any C.calm) fns_any hgl hm (by decide +kernel) he (by decide) (by decide) hs
def gAbs (r : Rs) : Res Rs := match r.d with
  | .int i => .ok (rsF (.int (if i < 0 then -i else i)))
  | _ => .no
theorem fns_abs : FnS X (fun xs H Q => ∃ i, xs = [.int i] ∧ Q (.int (if i < 0 then -i else i)) H) gAbs := by
  intro W H0 H F σ ra x fa Q s0 tr g o
  have p := g.rep
  unfold gAbs at o
  cases ed : ra.d <;> simp only [ed] at o <;> first | exact o.elim | skip
  rw [ed] at p
  rw [rep_int p]
  exact ⟨_, rfl, o.flat mk_int⟩
theorem ev_abs {p pos : Pos} {e : Expr} {f : Sto → Res Rs} (hm : X.mg "abs" = none) (he : Ev X W e f) (hgl : Gl X "abs" := by rfl) (hs : starEach [e] X.env = (false, eval e X.env) :: starEach [] X.env := by rfl) : Ev X W (.Call (.Name "abs" p) [e] [] pos) (fOne gAbs f) :=
  ev_fn1 call_abs fns_abs hgl hm (by decide +kernel) he (by decide) (by decide) hs
def gList (r : Rs) : Res Rs := match r.d with
  | .lst xs => .ok (rNewL xs r.src)
  | .rol xs => .ok (rNewL xs r.src)
  | .tup xs => .ok (rNewL xs r.src)
  | .dic ks _ => .ok (rNewL (ks.map Dat.str) [])
  | _ => .no
abbrev rListA (X : Cx) : List V → Hp → VK → Prop := fun xs H Q => (∃ p ys, xs = [.ref p] ∧ (SqL X.K H p ys ∨ SqT X.K H p ys) ∧ ∀ l, H l = none → Q (.ref l) (upd H l (.lst ys))) ∨
  (∃ (a : Addr) (kvs : List (Key × V)), xs = [.ref a] ∧ Rd H a (.dK kvs) ∧ ∀ p, H p = none → Q (.ref p) (upd H p (.lst (kvs.map fun kv => kV kv.1))))
theorem call_listA (C : XOk k X) : CallR X (.type "list") (rListA X) := CallR.or call_list_of (call_listD C.calm)
theorem kv_keys : ∀ {ks : List Tx} {vs : List V}, ks.length = vs.length → (kvOf ks vs).map (fun kv => kV kv.1) = (ks.map mkS).map V.str
  | [], [], _ => rfl
  | [], _ :: _, h => by simp at h
  | _ :: _, [], h => by simp at h
  | k :: ks, v :: vs, h => by
    show V.str (mkS k) :: (kvOf ks vs).map _ = _
    rw [kv_keys (by simpa using h)]
    rfl
theorem fns_list : FnS X (rListA X) gList := by
  intro W H0 H F σ ra x fa Q s0 tr g o
  have p := g.rep
  unfold gList at o
  cases ed : ra.d with
  | lst xs =>
    simp only [ed] at o
    obtain ⟨a, vs, f', ex, hv, rr, z⟩ := p.seqL (xs := xs) (by rw [ed]; rfl)
    subst ex
    exact .inl ⟨a, vs, rfl, .inl hv, fun q hq => o _ _ _ (same_new hq) (Gv.newL s0 rr hq fun c hc => g.prv.src c (z c hc))⟩
  | rol xs =>
    simp only [ed] at o
    obtain ⟨a, vs, f', ex, hv, rr, z⟩ := p.seqL (xs := xs) (by rw [ed]; rfl)
    subst ex
    exact .inl ⟨a, vs, rfl, .inl hv, fun q hq => o _ _ _ (same_new hq) (Gv.newL s0 rr hq fun c hc => g.prv.src c (z c hc))⟩
  | tup xs =>
    simp only [ed] at o
    obtain ⟨a, vs, ex, hv, rr⟩ := p.seqT (xs := xs) (by rw [ed]; rfl)
    subst ex
    exact .inl ⟨a, vs, rfl, .inr hv, fun q hq => o _ _ _ (same_new hq) (Gv.newL s0 rr hq fun c hc => g.prv.src c hc)⟩
  | dic ks ds =>
    simp only [ed] at o
    rw [ed] at p
    simp only [Rep] at p
    obtain ⟨a, vs, f, ex, hd, l, r, _⟩ := p
    subst ex
    refine .inr ⟨a, _, rfl, hd, fun q hq => ?_⟩
    rw [kv_keys l]
    exact o _ _ _ (same_new hq) (Gv.newL s0 (strs_reps ks) hq (fun _ z => nomatch z))
  | _ =>
    simp only [ed] at o
    exact o.elim
theorem ev_list (C : XOk k X) {p pos : Pos} {e : Expr} {f : Sto → Res Rs} (hm : X.mg "list" = none) (he : Ev X W e f) (hgl : Gl X "list" := by rfl) (hs : starEach [e] X.env = (false, eval e X.env) :: starEach [] X.env := by rfl) : Ev X W (.Call (.Name "list" p) [e] [] pos) (fOne gList f) :=
  ev_ty1 (call_listA C) fns_list hgl hm (by decide +kernel) he (by decide) (by decide) hs
end
end PV

namespace PV
open PySem PySem.Spec L2
def stripL (p : Nat → Bool) (x : Tx) : Tx := ((x.dropWhile p).reverse.dropWhile p).reverse
theorem tw_drop (p : Nat → Bool) : ∀ x : Tx, x.drop (x.takeWhile p).length = x.dropWhile p
  | [] => rfl
  | a :: x => by
    by_cases h : p a = true
    · rw [List.takeWhile_cons_of_pos h, List.dropWhile_cons_of_pos h, List.length_cons, List.drop_succ_cons]
      exact tw_drop p x
    · rw [List.takeWhile_cons_of_neg h, List.dropWhile_cons_of_neg h]
      rfl
theorem rev_cut (p : Nat → Bool) (y : Tx) : y.take (y.length - (y.reverse.takeWhile p).length) = (y.reverse.dropWhile p).reverse := by
  rw [← tw_drop p y.reverse, List.reverse_drop, List.reverse_reverse, List.length_reverse]
theorem stripBy_tl (p : Nat → Bool) (x : Tx) : Txt.stripBy p true true (mkS x) = mkS (stripL p x) := by
  rw [PyProof.Rows.stripBy_eq]
  apply TL.ext_tl
  rw [TL.tl_strSub]
  show ((x.drop (stripLo p true (mkS x))).take _) = stripL p x
  have e1 : stripLo p true (mkS x) = (x.takeWhile p).length := rfl
  have e2 : stripHi p true (mkS x) (stripLo p true (mkS x)) = x.length - ((x.drop (x.takeWhile p).length).reverse.takeWhile p).length := by
    unfold stripHi
    rw [if_pos rfl, mkS_len]
    rfl
  rw [e2, e1]
  unfold stripL
  rw [← rev_cut p (x.dropWhile p), ← tw_drop p x]
  congr 1
  have l1 : (x.drop (x.takeWhile p).length).length = x.length - (x.takeWhile p).length := List.length_drop
  rw [l1]
  omega
theorem lstrip_tl (p : Nat → Bool) (x : Tx) : Txt.stripBy p true false (mkS x) = mkS (x.dropWhile p) := by
  rw [PyProof.Rows.stripBy_eq]
  apply TL.ext_tl
  rw [TL.tl_strSub]
  show ((x.drop (stripLo p true (mkS x))).take _) = x.dropWhile p
  have e1 : stripLo p true (mkS x) = (x.takeWhile p).length := rfl
  have e2 : stripHi p false (mkS x) (stripLo p true (mkS x)) = x.length := by
    unfold stripHi
    rw [if_neg Bool.false_ne_true, mkS_len]
  rw [e2, e1, tw_drop, List.take_of_length_le]
  rw [← tw_drop]
  rw [List.length_drop]
  exact Nat.le_refl _
theorem contains_tl (y : Tx) : (mkS y).cps.contains = fun c => y.contains c := by
  funext c
  show y.toArray.contains c = _
  simp
theorem startswith_tl (x y : Tx) : Txt.startswith (mkS x) (mkS y) = (x.take y.length == y) := by
  unfold Txt.startswith
  rw [StrLaws.subAt_eq, mkS_len, mkS_len, mkS_cps, mkS_cps, List.drop_zero]
  by_cases h : 0 + y.length ≤ x.length
  · rw [decide_eq_true h, Bool.true_and]
  · rw [decide_eq_false h, Bool.false_and]
    symm
    rw [beq_eq_false_iff_ne]
    intro e
    have := congrArg List.length e
    rw [List.length_take] at this
    omega
/-- cut at each y -/
def splitL (y x : Tx) : List Tx := TL.spl y 0 [] x
theorem split_tl {x y : Tx} (hy : y ≠ []) (h : y.all (· < 256) = true) : Txt.split (mkS x) (mkS y) = (splitL y x).map mkS := by
  apply TL.map_tl_inj
  rw [TL.split_spl _ _ hy (TL.kind_ok (by simpa [mkS] using h)), List.map_map]
  have : (TL.tl ∘ mkS) = id := funext fun _ => rfl
  rw [this, List.map_id]
  rfl
def joinT (y : Tx) (ps : List Tx) : Tx := TL.joinL y ps
theorem join_tl (y : Tx) (ps : List Tx) : Txt.join (mkS y) (ps.map mkS) = mkS (joinT y ps) := by
  rw [TL.join_eq]
  apply TL.ext_tl
  rw [TL.tl_join, List.map_map]
  have : (TL.tl ∘ mkS) = id := funext fun _ => rfl
  rw [this, List.map_id]
  rfl
section
variable {X : Cx} {pins : List (Addr × Obj)} {σ : L2.St} {H : Hp} {s : Shared} {W : WX} {k : Nat}
/-- a text's method of one argument -/
def MtS1 (X : Cx) (r : V → List V → Hp → VK → Prop) (g : Tx → Rs → Res Rs) : Prop := ∀ (W : WX) (H0 H : Hp) (F : Fp) (σ : L2.St) (a : Tx) (rb : Rs) (y : V) (fb : List Addr) (Q : VK),
  Same H0 H → (∀ i, ∀ c ∈ F i, H0 c ≠ none) → Gv (glo X) H0 F rb y H fb → Out X W H0 H F σ (g a rb) Q → r (.str (mkS a)) [y] H Q
def fM1 (g : Tx → Rs → Res Rs) (fo f : Sto → Res Rs) : Sto → Res Rs := fun E => (fo E).bind fun ra => match ra.d with
  | .str a => (f E).bind fun rb => g a rb
  | _ => .no
theorem ev_m1 {id : String} {name : Str} {apos pos : Pos} {o e : Expr} {f fo : Sto → Res Rs} {r : V → List V → Hp → VK → Prop} {g : Tx → Rs → Res Rs} (slot : Slot "str" name id) (ty : typeOf (.builtin id) = pure (.type "method_descriptor")) (rule : MtR X id r) (hg : MtS1 X r g)
    (ho : Ev X W o fo) (he : Ev X W e f) (hs : starEach [e] X.env = [(false, eval e X.env)]) (hbase : attributeBase o name X.env (eval o X.env) = eval o X.env) (hline : (apos.endLine == pos.line) = true) : Ev X W (.Call (.Attribute o name apos) [e] [] pos) (fM1 g fo f) := by
  refine ⟨weakE (pe_m1 slot ty rule ho.pe he.pe hs hbase hline) fun σ H Q ⟨E, F, re, oo⟩ => ?_⟩
  refine seqE re (Same.refl H) oo fun ra x H1 f1 e1 s1 g1 o1 => ?_
  have p := g1.rep
  cases ed : ra.d with
  | str a =>
    simp only [ed] at o1
    rw [ed] at p
    refine ⟨⟨_, rep_str p⟩, ?_⟩
    refine seqE (re.same s1) s1 o1 fun rb y H2 f2 e2 s2 g2 o2 => ?_
    rw [rep_str p]
    exact hg W H H2 F σ a rb y f2 Q (s1.trans s2) (fun i => re.trk i) g2 o2
  | _ =>
    simp only [ed] at o1
    exact o1.elim
def gStartsW (a : Tx) (rb : Rs) : Res Rs := match rb.d with
  | .str b => .ok (rsF (.bl (a.take b.length == b)))
  | _ => .no
theorem mts_startsw : MtS1 X (fun x xs H Q => ∃ a b, x = .str a ∧ xs = [.str b] ∧ Q (.bl (Txt.startswith a b)) H) gStartsW := by
  intro W H0 H F σ a rb y fb Q s0 tr g o
  have p := g.rep
  unfold gStartsW at o
  cases ed : rb.d <;> simp only [ed] at o <;> first | exact o.elim | skip
  rw [ed] at p
  refine ⟨_, _, rfl, by rw [rep_str p], ?_⟩
  rw [startswith_tl]
  exact o.flat mk_bl
theorem ev_startsw {apos pos : Pos} {o e : Expr} {f fo : Sto → Res Rs} (ho : Ev X W o fo) (he : Ev X W e f) (hs : starEach [e] X.env = [(false, eval e X.env)] := by rfl) (hbase : attributeBase o "startswith" X.env (eval o X.env) = eval o X.env := by rfl) (hline : (apos.endLine == pos.line) = true := by rfl) : Ev X W (.Call (.Attribute o "startswith" apos) [e] [] pos) (fM1 gStartsW fo f) :=
  ev_m1 PySem.F.slot_str_startswith PySem.F.type_str_startswith mt_startswith mts_startsw ho he hs hbase hline
def gStrip (a : Tx) (rb : Rs) : Res Rs := match rb.d with
  | .str b => if a.length ≤ 1000000 then .ok (rsF (.str (stripL (fun c => b.contains c) a))) else .no
  | _ => .no
def gLstrip (a : Tx) (rb : Rs) : Res Rs := match rb.d with
  | .str b => if a.length ≤ 1000000 then .ok (rsF (.str (a.dropWhile (fun c => b.contains c)))) else .no
  | _ => .no
theorem mts_strip : MtS1 X (fun x xs H Q => ∃ a b, x = .str a ∧ xs = [.str b] ∧ a.length ≤ sizeLine ∧ Q (.str (Txt.stripChars a b)) H) gStrip := by
  intro W H0 H F σ a rb y fb Q s0 tr g o
  have p := g.rep
  unfold gStrip at o
  cases ed : rb.d <;> simp only [ed] at o <;> first | exact o.elim | skip
  rw [ed] at p
  by_cases h : a.length ≤ 1000000
  · rw [if_pos h] at o
    refine ⟨_, _, rfl, by rw [rep_str p], by rw [mkS_len]; exact sizeLine_le h, ?_⟩
    unfold Txt.stripChars
    rw [contains_tl, stripBy_tl]
    exact o.flat mk_str
  · rw [if_neg h] at o
    exact o.elim
theorem mts_lstrip : MtS1 X (fun x xs H Q => ∃ a b, x = .str a ∧ xs = [.str b] ∧ a.length ≤ sizeLine ∧ Q (.str (Txt.lstripChars a b)) H) gLstrip := by
  intro W H0 H F σ a rb y fb Q s0 tr g o
  have p := g.rep
  unfold gLstrip at o
  cases ed : rb.d <;> simp only [ed] at o <;> first | exact o.elim | skip
  rw [ed] at p
  by_cases h : a.length ≤ 1000000
  · rw [if_pos h] at o
    refine ⟨_, _, rfl, by rw [rep_str p], by rw [mkS_len]; exact sizeLine_le h, ?_⟩
    unfold Txt.lstripChars
    rw [contains_tl, lstrip_tl]
    exact o.flat mk_str
  · rw [if_neg h] at o
    exact o.elim
theorem ev_strip {apos pos : Pos} {o e : Expr} {f fo : Sto → Res Rs} (ho : Ev X W o fo) (he : Ev X W e f) (hs : starEach [e] X.env = [(false, eval e X.env)] := by rfl) (hbase : attributeBase o "strip" X.env (eval o X.env) = eval o X.env := by rfl) (hline : (apos.endLine == pos.line) = true := by rfl) : Ev X W (.Call (.Attribute o "strip" apos) [e] [] pos) (fM1 gStrip fo f) :=
  ev_m1 PySem.F.slot_str_strip PySem.F.type_str_strip mt_stripChars mts_strip ho he hs hbase hline
theorem ev_lstrip {apos pos : Pos} {o e : Expr} {f fo : Sto → Res Rs} (ho : Ev X W o fo) (he : Ev X W e f) (hs : starEach [e] X.env = [(false, eval e X.env)] := by rfl) (hbase : attributeBase o "lstrip" X.env (eval o X.env) = eval o X.env := by rfl) (hline : (apos.endLine == pos.line) = true := by rfl) : Ev X W (.Call (.Attribute o "lstrip" apos) [e] [] pos) (fM1 gLstrip fo f) :=
  ev_m1 PySem.F.slot_str_lstrip PySem.F.type_str_lstrip mt_lstripChars mts_lstrip ho he hs hbase hline
def gSplit (a : Tx) (rb : Rs) : Res Rs := match rb.d with
  | .str b => if b ≠ [] ∧ b.all (· < 256) = true ∧ a.length ≤ 1000000 then .ok (rNewL ((splitL b a).map Dat.str) []) else .no
  | _ => .no
theorem mts_split : MtS1 X (fun x xs H Q => ∃ a b, x = .str a ∧ xs = [.str b] ∧ (b.length == 0) = false ∧ a.length + 2 ≤ sizeLine ∧ rNewStrs (Txt.split a b) H Q) gSplit := by
  intro W H0 H F σ a rb y fb Q s0 tr g o
  have p := g.rep
  unfold gSplit at o
  cases ed : rb.d <;> simp only [ed] at o <;> first | exact o.elim | skip
  rename_i b
  rw [ed] at p
  by_cases h : b ≠ [] ∧ b.all (· < 256) = true ∧ a.length ≤ 1000000
  · rw [if_pos h] at o
    have e16 : sizeLine = 16777216 := by decide
    refine ⟨_, _, rfl, by rw [rep_str p], ?_, by rw [mkS_len, e16]; have := h.2.2; omega, fun q hq => ?_⟩
    · rw [mkS_len]
      cases b with
      | nil => exact absurd rfl h.1
      | cons c b => rfl
    · rw [split_tl h.1 h.2.1]
      exact o _ _ _ (same_new hq) (Gv.newL s0 (strs_reps _) hq (fun _ z => nomatch z))
  · rw [if_neg h] at o
    exact o.elim
theorem ev_split {apos pos : Pos} {o e : Expr} {f fo : Sto → Res Rs} (ho : Ev X W o fo) (he : Ev X W e f) (hs : starEach [e] X.env = [(false, eval e X.env)] := by rfl) (hbase : attributeBase o "split" X.env (eval o X.env) = eval o X.env := by rfl) (hline : (apos.endLine == pos.line) = true := by rfl) : Ev X W (.Call (.Attribute o "split" apos) [e] [] pos) (fM1 gSplit fo f) :=
  ev_m1 PySem.F.slot_str_split PySem.F.type_str_split mt_split mts_split ho he hs hbase hline
def gJoin (a : Tx) (rb : Rs) : Res Rs := match (seqOf rb.d).bind strsOf with
  | some ys => if (ys.map (·.length)).sum + ys.length * a.length ≤ 1000000 then .ok (rsF (.str (joinT a ys))) else .no
  | none => .no
theorem mts_join : MtS1 X (fun x xs H Q => ∃ a p, ∃ ys : List Str, x = .str a ∧ xs = [.ref p] ∧ (SqL X.K H p (ys.map V.str) ∨ SqT X.K H p (ys.map V.str)) ∧ (ys.map (·.length)).sum + ys.length * a.length ≤ 16777216 ∧ Q (.str (Txt.join a ys)) H) gJoin := by
  intro W H0 H F σ a rb y fb Q s0 tr g o
  unfold gJoin at o
  cases e1 : seqOf rb.d with
  | none =>
    rw [e1] at o
    exact o.elim
  | some xs =>
    obtain ⟨b, vs, f', ex, hv, rr, z⟩ := g.rep.seqL (seqOf_vw e1)
    rw [e1] at o
    cases e2 : strsOf xs with
    | none =>
      simp only [Option.bind_some, e2] at o
      exact o.elim
    | some ns =>
      simp only [Option.bind_some, e2] at o
      obtain ⟨q1, _⟩ := strsOf_reps rr e2
      subst ex
      rw [q1] at hv
      by_cases h : (ns.map (·.length)).sum + ns.length * a.length ≤ 1000000
      · rw [if_pos h] at o
        refine ⟨mkS a, b, ns.map mkS, rfl, rfl, .inl hv, ?_, ?_⟩
        · have : (ns.map mkS).map (·.length) = ns.map (·.length) := by
            rw [List.map_map]
            apply List.map_congr_left
            intro n _
            exact mkS_len n
          rw [this, List.length_map, mkS_len]
          omega
        · rw [join_tl]
          exact o.flat mk_str
      · rw [if_neg h] at o
        exact o.elim
theorem ev_join {apos pos : Pos} {o e : Expr} {f fo : Sto → Res Rs} (ho : Ev X W o fo) (he : Ev X W e f) (hs : starEach [e] X.env = [(false, eval e X.env)] := by rfl) (hbase : attributeBase o "join" X.env (eval o X.env) = eval o X.env := by rfl) (hline : (apos.endLine == pos.line) = true := by rfl) : Ev X W (.Call (.Attribute o "join" apos) [e] [] pos) (fM1 gJoin fo f) :=
  ev_m1 PySem.F.slot_str_join PySem.F.type_str_join mt_join mts_join ho he hs hbase hline
end
end PV

namespace PV
open PySem PySem.Spec L2

/-- J gives these data in turn, while what it leans on stands -/
structure ItOk (G : Glo) (H0 : Hp) (F : Fp) (items : List Dat) (src : List Nat) (J : It) (H1 : Hp) (fp : List Addr) (Gd : Hp → Prop) : Prop where
  now : Gd H1
  walk : Walk J items.length Gd (fun i H x H' => Same H H' ∧ ∃ d f, items[i]? = some d ∧ Rep G H' d x f ∧ ∀ a ∈ f, a ∈ fp)
  keep : ∀ W H H', Gd H → Kf W H H' → (∀ a ∈ fp, a ∉ W) → Gd H'
  trk : ∀ H, Gd H → ∀ a ∈ fp, H a ≠ none
  src : ∀ a ∈ fp, H0 a = none ∨ ∃ i ∈ src, a ∈ F i
  unl : ∀ H H' d od kvs, Gd H → H d = some (.dK kvs) → Gd H' → H' d = some (.frz od (.dK kvs)) → Gd (upd H' d (.dK kvs))
theorem ItOk.ofKp {G : Glo} {H0 : Hp} {F : Fp} {items : List Dat} {src : List Nat} {J : It} {H1 : Hp} {fp : List Addr} {Gd : Hp → Prop} (now : Gd H1) (walk : Walk J items.length Gd (fun i H x H' => Same H H' ∧ ∃ d f, items[i]? = some d ∧ Rep G H' d x f ∧ ∀ a ∈ f, a ∈ fp))
    (kp : ∀ W H H', Gd H → Kp W H H' → (∀ a ∈ fp, a ∉ W) → Gd H') (trk : ∀ H, Gd H → ∀ a ∈ fp, H a ≠ none) (hsrc : ∀ a ∈ fp, H0 a = none ∨ ∃ i ∈ src, a ∈ F i) : ItOk G H0 F items src J H1 fp Gd :=
  ⟨now, walk, fun W H H' g kf n => kp W H H' g kf.kp n, trk, hsrc, fun H H' d od kvs _ _ g e => kp [] _ _ g (Kp.unl e) (fun _ _ => by simp)⟩
def tEi (X : Cx) (W : WX) (fi : Sto → Res (List Dat × List Nat)) : TI := fun σ H R => ∃ E F, RepE (glo X) H E σ F ∧ match fi E with
  | .ok (items, src) => ∀ J H1 fp Gd, Same H H1 → ItOk (glo X) H F items src J H1 fp Gd → R J H1
  | .exc c => ∀ C H', X.mg (mkS c) = some (.ref C) → Same H H' → W (.ref C) none σ H'
  | .no => False
structure Ei (X : Cx) (W : WX) (tg e : Expr) (fi : Sto → Res (List Dat × List Nat)) : Prop where
  pi : PI X tg e (tEi X W fi)
section
variable {X : Cx} {W : WX} {k : Nat}
theorem weakI {tg e : Expr} {t t' : TI} (p : PI X tg e t) (w : ∀ σ H R, t' σ H R → t σ H R) : PI X tg e t' := ⟨fun pins s σ H R I h => p.run pins s σ H R I (w σ H R h)⟩
theorem pi_orI {tg e : Expr} {t t' : TI} (p : PI X tg e t) (p' : PI X tg e t') : PI X tg e (fun σ H R => t σ H R ∨ t' σ H R) := ⟨fun pins s σ H R I h => h.elim (p.run pins s σ H R I) (p'.run pins s σ H R I)⟩
/-- a list, a tuple, a text -/
def gItems (r : Rs) : Res (List Dat × List Nat) := match r.d with
  | .lst xs => .ok (xs, r.src)
  | .rol xs => .ok (xs, r.src)
  | .tup xs => .ok (xs, r.src)
  | .str x => .ok (x.map (fun c => Dat.str [c]), [])
  | _ => .no
def iOf (f : Sto → Res Rs) : Sto → Res (List Dat × List Nat) := fun E => (f E).bind gItems
theorem seqI {f : Sto → Res Rs} {E : Sto} {F : Fp} {σ : L2.St} {H : Hp} {Q' : VK} {R : It → Hp → Prop} {kk : Rs → Res (List Dat × List Nat)} (re : RepE (glo X) H E σ F)
    (o : match (f E).bind kk with
      | .ok (items, src) => ∀ J H1 fp Gd, Same H H1 → ItOk (glo X) H F items src J H1 fp Gd → R J H1
      | .exc c => ∀ C H', X.mg (mkS c) = some (.ref C) → Same H H' → W (.ref C) none σ H'
      | .no => False)
    (h : ∀ r v H1 fp, f E = .ok r → Same H H1 → Gv (glo X) H F r v H1 fp → (match kk r with
      | .ok (items, src) => ∀ J H1 fp Gd, Same H H1 → ItOk (glo X) H F items src J H1 fp Gd → R J H1
      | .exc c => ∀ C H', X.mg (mkS c) = some (.ref C) → Same H H' → W (.ref C) none σ H'
      | .no => False) → Q' v H1) : tEv X W f σ H Q' := by
  refine ⟨E, F, re, ?_⟩
  cases e : f E with
  | no =>
    rw [e] at o
    exact o
  | exc c =>
    rw [e] at o
    exact o
  | ok r =>
    intro v H1 fp s1 g
    rw [e] at o
    exact h r v H1 fp e s1 g o
theorem itok_list {G : Glo} {H0 H1 : Hp} {F : Fp} {xs : List Dat} {src : List Nat} {a : Addr} {vs : List V} {f : List Addr} (h : H1 a = some (.lst vs)) (r : RepL G H1 xs vs f) (hs : ∀ b ∈ a :: f, H0 b = none ∨ ∃ i ∈ src, b ∈ F i) :
    ItOk G H0 F xs src (Itl G.K a) H1 (a :: f) (fun H => H a = some (.lst vs) ∧ RepL G H xs vs f) := by
  refine .ofKp ⟨h, r⟩ ?_ (fun W H H' ⟨g1, g2⟩ kp n => ⟨kp.lst a vs (n a (by simp)) g1, RepL.kp kp xs vs f g2 fun b hb => n b (by simp [hb])⟩) (fun H ⟨g1, g2⟩ b hb => ?_) hs
  · have w := (walk_list (K := G.K) (a := a) (xs := vs))
    rw [r.len] at w
    refine w.mono (fun H g => .inl (.inl g.1)) fun i H x H' hi g y => ?_
    obtain ⟨e, hx⟩ := y
    subst e
    obtain ⟨v, f', q1, q2, q3⟩ := g.2.at (List.getElem?_eq_getElem hi)
    rw [hx] at q1
    injection q1 with q1
    subst q1
    exact ⟨Same.refl _, _, f', List.getElem?_eq_getElem hi, q2, fun b hb => by simp [q3 b hb]⟩
  · rcases List.mem_cons.mp hb with z | z
    · rw [z, g1]
      simp
    · exact RepL.trk _ _ _ g2 b z
theorem itok_rol {G : Glo} {H0 H1 : Hp} {F : Fp} {xs : List Dat} {src : List Nat} {a : Addr} {vs : List V} {f : List Addr} (h : RoL G.K H1 a vs) (r : RepL G H1 xs vs f) (hs : ∀ b ∈ f, H0 b = none ∨ ∃ i ∈ src, b ∈ F i) :
    ItOk G H0 F xs src (Itl G.K a) H1 f (fun H => RoL G.K H a vs ∧ RepL G H xs vs f) := by
  refine .ofKp ⟨h, r⟩ ?_ (fun W H H' ⟨g1, g2⟩ kp n => ⟨g1.imp (kp.frl a vs) id, RepL.kp kp xs vs f g2 n⟩) (fun H ⟨g1, g2⟩ b hb => RepL.trk _ _ _ g2 b hb) hs
  have w := (walk_list (K := G.K) (a := a) (xs := vs))
  rw [r.len] at w
  refine w.mono (fun H g => g.1.elim (fun ⟨o, q⟩ => .inl (.inr ⟨o, q⟩)) .inr) fun i H x H' hi g y => ?_
  obtain ⟨e, hx⟩ := y
  subst e
  obtain ⟨v, f', q1, q2, q3⟩ := g.2.at (List.getElem?_eq_getElem hi)
  rw [hx] at q1
  injection q1 with q1
  subst q1
  exact ⟨Same.refl _, _, f', List.getElem?_eq_getElem hi, q2, q3⟩
theorem itok_tup {G : Glo} {H0 H1 : Hp} {F : Fp} {xs : List Dat} {src : List Nat} {a : Addr} {vs : List V} {f : List Addr} (h : SqT G.K H1 a vs) (r : RepL G H1 xs vs f) (hs : ∀ b ∈ f, H0 b = none ∨ ∃ i ∈ src, b ∈ F i) :
    ItOk G H0 F xs src (Itt G.K a) H1 f (fun H => SqT G.K H a vs ∧ RepL G H xs vs f) := by
  refine .ofKp ⟨h, r⟩ ?_ (fun W H H' ⟨g1, g2⟩ kp n => ⟨g1.imp (kp.tup a vs) id, RepL.kp kp xs vs f g2 n⟩) (fun H ⟨g1, g2⟩ b hb => RepL.trk _ _ _ g2 b hb) hs
  have w := (walk_tup (K := G.K) (a := a) (xs := vs))
  rw [r.len] at w
  refine w.mono (fun H g => g.1) fun i H x H' hi g y => ?_
  obtain ⟨e, hx⟩ := y
  subst e
  obtain ⟨v, f', q1, q2, q3⟩ := g.2.at (List.getElem?_eq_getElem hi)
  rw [hx] at q1
  injection q1 with q1
  subst q1
  exact ⟨Same.refl _, _, f', List.getElem?_eq_getElem hi, q2, q3⟩
theorem itok_str {G : Glo} {H0 H1 : Hp} {F : Fp} {x : Tx} : ItOk G H0 F (x.map (fun c => Dat.str [c])) [] (Its (mkS x)) H1 [] (fun _ => True) := by
  refine .ofKp trivial ?_ (fun _ _ _ _ _ _ => trivial) (fun _ _ _ z => nomatch z) (fun _ z => nomatch z)
  have w := (walk_str (z := mkS x))
  have e : (mkS x).cps.size = (x.map (fun c => Dat.str [c])).length := by
    rw [List.length_map]
    show x.toArray.size = _
    simp
  rw [e] at w
  refine w.mono (fun H g => trivial) fun i H y H' hi g q => ?_
  obtain ⟨e1, c, hc, ey⟩ := q
  subst e1
  subst ey
  have hc' : x[i]? = some c := by
    have : (mkS x).cps[i]? = x[i]? := by
      show x.toArray[i]? = _
      simp
    rw [← this]
    exact hc
  refine ⟨Same.refl _, .str [c], [], ?_, ?_, (fun _ z => nomatch z)⟩
  · rw [List.getElem?_map, hc']
    rfl
  · exact mk_str (x := [c])
theorem ei_of {tg e : Expr} {f : Sto → Res Rs} (h : Ev X W e f) : Ei X W tg e (iOf f) := by
  refine ⟨weakI (pi_orI (pi_orI (pi_list h.pe) (pi_tup h.pe)) (pi_str h.pe)) fun σ H R ⟨E, F, re, o⟩ => ?_⟩
  have o : (match (f E).bind gItems with
      | .ok (items, src) => ∀ J H1 fp Gd, Same H H1 → ItOk (glo X) H F items src J H1 fp Gd → R J H1
      | .exc c => ∀ C H', X.mg (mkS c) = some (.ref C) → Same H H' → W (.ref C) none σ H'
      | .no => False) := o
  cases e0 : f E with
  | no =>
    rw [e0] at o
    exact o.elim
  | exc c =>
    left; left
    exact seqI (kk := gItems) re o fun r v H1 fp e1 => by
      rw [e0] at e1
      cases e1
  | ok r0 =>
    cases ed : r0.d with
    | lst xs =>
      left; left
      refine seqI (kk := gItems) re o fun r v H1 fp e1 s1 g o1 => ?_
      rw [e0] at e1
      cases e1
      have p := g.rep
      rw [ed] at p
      obtain ⟨a, vs, f', ex, hv, rr, z⟩ := rep_lst p
      simp only [gItems, ed] at o1
      refine ⟨a, ex, ⟨vs, .inl (.inl hv)⟩, o1 _ H1 (a :: f') _ s1 (itok_list (G := glo X) hv rr fun b hb => g.prv.src b (by rw [z]; exact hb))⟩
    | rol xs =>
      left; left
      refine seqI (kk := gItems) re o fun r v H1 fp e1 s1 g o1 => ?_
      rw [e0] at e1
      cases e1
      have p := g.rep
      rw [ed] at p
      simp only [Rep] at p
      obtain ⟨a, vs, ex, hv, rr⟩ := p
      simp only [gItems, ed] at o1
      exact ⟨a, ex, ⟨vs, hv.elim (fun ⟨o, q⟩ => .inl (.inr ⟨o, q⟩)) .inr⟩, o1 _ H1 fp _ s1 (itok_rol (G := glo X) hv rr g.prv.src)⟩
    | tup xs =>
      left; right
      refine seqI (kk := gItems) re o fun r v H1 fp e1 s1 g o1 => ?_
      rw [e0] at e1
      cases e1
      have p := g.rep
      rw [ed] at p
      simp only [Rep] at p
      obtain ⟨a, vs, ex, hv, rr⟩ := p
      simp only [gItems, ed] at o1
      exact ⟨a, ex, ⟨vs, hv⟩, o1 _ H1 fp _ s1 (itok_tup (G := glo X) hv rr g.prv.src)⟩
    | str x =>
      right
      refine seqI (kk := gItems) re o fun r v H1 fp e1 s1 g o1 => ?_
      rw [e0] at e1
      cases e1
      have p := g.rep
      rw [ed] at p
      simp only [gItems, ed] at o1
      exact ⟨mkS x, rep_str p, o1 _ H1 [] _ s1 itok_str⟩
    | _ =>
      rw [e0] at o
      simp only [bind_ok, gItems, ed] at o
/-- range(n), range(a, b) -/
def gRange1 (r : Rs) : Res (List Dat × List Nat) := match r.d with
  | .int j => if -1000000 ≤ j ∧ j ≤ 1000000 then .ok ((List.range j.toNat).map (fun (i : Nat) => Dat.int (0 + i)), []) else .no
  | _ => .no
def iRange1 (f : Sto → Res Rs) : Sto → Res (List Dat × List Nat) := fun E => (f E).bind gRange1
inductive Tgt where
  | one (i : Nat) | many (l : List Nat)
def bindL : List Nat → List Dat → Sto → Option Sto
  | [], [], E => some E
  | i :: l, d :: ds, E => if i < E.length then bindL l ds (E.set i (some (d, .shr))) else none
  | _, _, _ => none
def bindT : Tgt → Dat → Sto → Option Sto
  | .one i, d, E => if i < E.length then some (E.set i (some (d, .shr))) else none
  | .many l, .tup ds, E => bindL l ds E
  | _, _, _ => none
def gL : List Nat → TGs
  | [] => gNil
  | i :: l => gCons (gName i) (gL l)
def gT (K : PySem.W.Frag) : Tgt → TG
  | .one i => gName i
  | .many l => gTup K l.length (gL l)
def slotsT : Tgt → List Nat
  | .one i => [i]
  | .many l => l
theorem slot_set {E : Sto} {i j : Nat} {x : Dat × Kd} (hi : i < E.length) : slot (E.set i (some x)) j = if j = i then some x else slot E j := by
  unfold slot
  by_cases h : j = i
  · subst h
    rw [if_pos rfl, List.getElem?_set_self hi]
  · rw [if_neg h, List.getElem?_set_ne (Ne.symm h)]
theorem slot_set_none {E : Sto} {i j : Nat} : slot (E.set i none) j = if j = i then none else slot E j := by
  unfold slot
  by_cases h : j = i
  · subst h
    rw [if_pos rfl]
    by_cases hl : j < E.length
    · rw [List.getElem?_set_self hl]
    · rw [List.getElem?_eq_none (by simpa using hl)]
  · rw [if_neg h, List.getElem?_set_ne (Ne.symm h)]
/-- a slot given -/
theorem RepE.set {G : Glo} {H : Hp} {E : Sto} {σ : L2.St} {F : Fp} {i : Nat} {d : Dat} {kd : Kd} {v : V} {f : List Addr} (r : RepE G H E σ F) (hi : i < E.length) (h : Rep G H d v f) :
    RepE G H (E.set i (some (d, kd))) (σ.set i (some v)) (fun j => if j = i then f else F j) := by
  have hs : i < σ.length := by
    rw [← r.len]
    exact hi
  refine ⟨by simp [r.len], fun j d' k' e => ?_, fun j e => ?_⟩
  · rw [slot_set hi] at e
    by_cases hj : j = i
    · subst hj
      rw [if_pos rfl] at e
      injection e with e
      cases e
      exact ⟨v, by rw [List.getElem?_set_self hs], by simpa using h⟩
    · rw [if_neg hj] at e
      obtain ⟨u, q1, q2⟩ := r.rep j d' k' e
      exact ⟨u, by rw [List.getElem?_set_ne (Ne.symm hj)]; exact q1, by simpa [hj] using q2⟩
  · rw [slot_set hi] at e
    by_cases hj : j = i
    · rw [if_pos hj] at e
      cases e
    · rw [if_neg hj] at e
      show (if j = i then f else F j) = []
      rw [if_neg hj]
      exact r.emp j e
/-- a slot forgotten -/
theorem RepE.drop {G : Glo} {H : Hp} {E : Sto} {σ : L2.St} {F : Fp} {i : Nat} {o : Option V} (r : RepE G H E σ F) : RepE G H (E.set i none) (σ.set i o) (fun j => if j = i then [] else F j) := by
  refine ⟨by simp [r.len], fun j d' k' e => ?_, fun j e => ?_⟩
  · rw [slot_set_none] at e
    by_cases hj : j = i
    · rw [if_pos hj] at e
      cases e
    · rw [if_neg hj] at e
      obtain ⟨u, q1, q2⟩ := r.rep j d' k' e
      exact ⟨u, by rw [List.getElem?_set_ne (Ne.symm hj)]; exact q1, by simpa [hj] using q2⟩
  · rw [slot_set_none] at e
    by_cases hj : j = i
    · show (if j = i then [] else F j) = []
      rw [if_pos hj]
    · rw [if_neg hj] at e
      show (if j = i then [] else F j) = []
      rw [if_neg hj]
      exact r.emp j e
/-- what a bound target leaves -/
structure Bnd (G : Glo) (H : Hp) (E : Sto) (σ : L2.St) (F : Fp) (l : List Nat) (f : List Addr) (E1 : Sto) (σ1 : L2.St) (F1 : Fp) : Prop where
  rep : RepE G H E1 σ1 F1
  out : ∀ j, j ∉ l → F1 j = F j ∧ slot E1 j = slot E j
  inn : ∀ j, j ∈ l → ∀ a ∈ F1 j, a ∈ f
  wip : ∀ vs : List Nat, (∀ i ∈ l, i ∈ vs) → wipe σ1 vs = wipe σ vs
  kin : ∀ j d k, j ∈ l → slot E1 j = some (d, k) → k = .shr
theorem wipe_set {σ : L2.St} {i : Nat} {o : Option V} : ∀ {vs : List Nat}, i ∈ vs → wipe (σ.set i o) vs = wipe σ vs
  | [], h => nomatch h
  | v :: vs, h => by
    show (wipe (σ.set i o) vs).set v none = (wipe σ vs).set v none
    by_cases hi : i ∈ vs
    · rw [wipe_set hi]
    · have e : i = v := (List.mem_cons.mp h).resolve_right hi
      subst e
      exact wipe_set' hi
where
  wipe_set' {σ : L2.St} {i : Nat} {o : Option V} : ∀ {vs : List Nat}, i ∉ vs → (wipe (σ.set i o) vs).set i none = (wipe σ vs).set i none
    | [], _ => by
      show (σ.set i o).set i none = σ.set i none
      rw [List.set_set]
    | v :: vs, h => by
      have hv : i ≠ v := fun e => h (by simp [e])
      show ((wipe (σ.set i o) vs).set v none).set i none = ((wipe σ vs).set v none).set i none
      rw [List.set_comm _ _ (Ne.symm hv), List.set_comm _ _ (Ne.symm hv), wipe_set' (fun z => h (by simp [z]))]
theorem bind_one {G : Glo} {H : Hp} {E : Sto} {σ : L2.St} {F : Fp} {i : Nat} {d : Dat} {v : V} {f : List Addr} (r : RepE G H E σ F) (hi : i < E.length) (h : Rep G H d v f) :
    Bnd G H E σ F [i] f (E.set i (some (d, .shr))) (σ.set i (some v)) (fun j => if j = i then f else F j) := by
  refine ⟨r.set hi h, fun j hj => ?_, fun j hj a ha => ?_, fun vs hv => wipe_set (hv i (by simp)), fun j d' k' hj e => ?_⟩
  · have : j ≠ i := fun e => hj (by simp [e])
    exact ⟨by simp [this], by rw [slot_set hi, if_neg this]⟩
  · have : j = i := by simpa using hj
    simpa [this] using ha
  · have : j = i := by simpa using hj
    rw [slot_set hi, if_pos this] at e
    cases e
    rfl
theorem bind_many {G : Glo} {H : Hp} : ∀ {l : List Nat} {ds : List Dat} {vs : List V} {f fp : List Addr} {E E1 : Sto} {σ : L2.St} {F : Fp} {Q : L2.St → Hp → Prop}, RepE G H E σ F → RepL G H ds vs f → (∀ a ∈ f, a ∈ fp) → bindL l ds E = some E1 →
    (∀ σ1 F1, Bnd G H E σ F l fp E1 σ1 F1 → Q σ1 H) → gL l vs σ H Q
  | [], [], vs, f, fp, E, E1, σ, F, Q, r, rl, hf, e, h => by
    simp only [RepL] at rl
    simp only [bindL] at e
    cases e
    refine ⟨rl.1, h σ F ⟨r, fun j _ => ⟨rfl, rfl⟩, (fun j hj => nomatch hj), fun vs _ => rfl, (fun j _ _ hj => nomatch hj)⟩⟩
  | [], _ :: _, vs, f, fp, E, E1, σ, F, Q, r, rl, hf, e, h => by simp only [bindL] at e; cases e
  | _ :: _, [], vs, f, fp, E, E1, σ, F, Q, r, rl, hf, e, h => by simp only [bindL] at e; cases e
  | i :: l, d :: ds, vs, f, fp, E, E1, σ, F, Q, r, rl, hf, e, h => by
    simp only [RepL] at rl
    obtain ⟨v, vs', f1, f2, e1, e2, r1, rr⟩ := rl
    subst e1
    subst e2
    simp only [bindL] at e
    by_cases hi : i < E.length
    · rw [if_pos hi] at e
      have b1 := bind_one r hi r1
      refine ⟨v, vs', rfl, ?_⟩
      refine bind_many b1.rep rr (fun a ha => hf a (by simp [ha])) e fun σ1 F1 b2 => h σ1 F1 ?_
      refine ⟨b2.rep, fun j hj => ?_, fun j hj a ha => ?_, fun vs hv => ?_, fun j d' k' hj e' => ?_⟩
      · have h1 : j ∉ l := fun z => hj (by simp [z])
        have h2 : j ∉ [i] := fun z => hj (by simp at z; simp [z])
        exact ⟨(b2.out j h1).1.trans (b1.out j h2).1, (b2.out j h1).2.trans (b1.out j h2).2⟩
      · by_cases hl : j ∈ l
        · exact b2.inn j hl a ha
        · rw [(b2.out j hl).1] at ha
          have : j = i := (List.mem_cons.mp hj).resolve_right hl
          exact hf a (by simp [b1.inn j (by simp [this]) a ha])
      · rw [b2.wip vs fun z hz => hv z (by simp [hz])]
        exact b1.wip vs fun z hz => hv z (by simp at hz; simp [hz])
      · by_cases hl : j ∈ l
        · exact b2.kin j d' k' hl e'
        · rw [(b2.out j hl).2] at e'
          have : j = i := (List.mem_cons.mp hj).resolve_right hl
          exact b1.kin j d' k' (by simp [this]) e'
    · rw [if_neg hi] at e
      cases e
theorem bind_tg {G : Glo} {H : Hp} {T : Tgt} {d : Dat} {v : V} {f : List Addr} {E E1 : Sto} {σ : L2.St} {F : Fp} {Q : L2.St → Hp → Prop} (r : RepE G H E σ F) (h : Rep G H d v f) (e : bindT T d E = some E1)
    (hq : ∀ σ1 F1, Bnd G H E σ F (slotsT T) f E1 σ1 F1 → Q σ1 H) : gT G.K T v σ H Q := by
  cases T with
  | one i =>
    simp only [bindT] at e
    by_cases hi : i < E.length
    · rw [if_pos hi] at e
      cases e
      exact hq _ _ (bind_one r hi h)
    · rw [if_neg hi] at e
      cases e
  | many l =>
    cases d with
    | tup ds =>
      simp only [bindT] at e
      simp only [Rep] at h
      obtain ⟨a, vs, ev, hs, rl⟩ := h
      refine ⟨a, vs, ev, hs, ?_, bind_many r rl (fun _ z => z) e hq⟩
      rw [rl.len]
      exact bindL_len e
    | _ =>
      simp only [bindT] at e
      cases e
where
  bindL_len : ∀ {l : List Nat} {ds : List Dat} {E E1 : Sto}, bindL l ds E = some E1 → ds.length = l.length
    | [], [], _, _, _ => rfl
    | [], _ :: _, _, _, e => by simp only [bindL] at e; cases e
    | _ :: _, [], _, _, e => by simp only [bindL] at e; cases e
    | i :: l, d :: ds, E, E1, e => by
      simp only [bindL] at e
      by_cases hi : i < E.length
      · rw [if_pos hi] at e
        show ds.length + 1 = l.length + 1
        rw [bindL_len e]
      · rw [if_neg hi] at e
        cases e
end
end PV

namespace PV
open PySem PySem.Spec L2
abbrev Wn : WX := fun _ _ _ _ => False
def wipeE (E : Sto) : List Nat → Sto
  | [] => E
  | v :: vs => (wipeE E vs).set v none
theorem wipe_wipe {σ : L2.St} : ∀ vs : List Nat, wipe (wipe σ vs) vs = wipe σ vs := by
  have key : ∀ (us vs : List Nat), (∀ i ∈ us, i ∈ vs) → wipe (wipe σ us) vs = wipe σ vs := by
    intro us
    induction us with
    | nil => exact fun vs _ => rfl
    | cons u us ih =>
      intro vs h
      show wipe ((wipe σ us).set u none) vs = _
      rw [wipe_set (h u (by simp))]
      exact ih vs fun i hi => h i (by simp [hi])
  exact fun vs => key vs vs fun _ h => h
theorem RepE.wipe {G : Glo} {H : Hp} {E : Sto} {σ : L2.St} {F : Fp} (r : RepE G H E σ F) : ∀ vs : List Nat, RepE G H (wipeE E vs) (L2.wipe σ vs) (fun j => if j ∈ vs then [] else F j)
  | [] => by
    have : (fun j => if j ∈ ([] : List Nat) then ([] : List Addr) else F j) = F := by
      funext j
      simp
    rw [this]
    exact r
  | v :: vs => by
    have h := (r.wipe vs).drop (i := v) (o := none)
    have : (fun j => if j ∈ v :: vs then ([] : List Addr) else F j) = (fun j => if j = v then [] else if j ∈ vs then [] else F j) := by
      funext j
      by_cases h1 : j = v
      · simp [h1]
      · by_cases h2 : j ∈ vs <;> simp [h1, h2]
    rw [this]
    exact h
def compGo (st : Dat → Res (Option Rs)) : List Dat → Res (List Rs)
  | [] => .ok []
  | d :: ds => (st d).bind fun o => (compGo st ds).bind fun rs => .ok (o.toList ++ rs)
def stepC (T : Tgt) (E : Sto) (ft : Sto → Res Bool) (fe : Sto → Res Rs) (d : Dat) : Res (Option Rs) := match bindT T d E with
  | none => .no
  | some E1 => (ft E1).bind fun b => if b then (fe E1).bind fun r => .ok (some r) else .ok none
def isDeep (r : Rs) : Bool := match r.mv with
  | some [] => true
  | _ => false
def rComp (T : Tgt) (rs : List Rs) (src : List Nat) : Rs := ⟨.lst (rs.map (·.d)), true, (allSrc rs).filter (fun j => decide (j ∉ slotsT T)) ++ src, if rs.all isDeep then some [] else none⟩
def fComp (T : Tgt) (own : List Nat) (fi : Sto → Res (List Dat × List Nat)) (ft : Sto → Res Bool) (fe : Sto → Res Rs) : Sto → Res Rs := fun E => (fi E).bind fun p => match compGo (stepC T (wipeE E own) ft fe) p.1 with
  | .ok rs => if rs.length ≤ 1000000 then .ok (rComp T rs p.2) else .no
  | _ => .no
theorem compGo_app {st : Dat → Res (Option Rs)} : ∀ (xs ys : List Dat), compGo st (xs ++ ys) = (compGo st xs).bind fun a => (compGo st ys).bind fun b => .ok (a ++ b)
  | [], ys => by
    show compGo st ys = (compGo st ys).bind fun b => .ok ([] ++ b)
    cases compGo st ys <;> rfl
  | x :: xs, ys => by
    show (st x).bind _ = _
    have ih := compGo_app (st := st) xs ys
    simp only [List.append_eq, ih, compGo]
    cases st x <;> simp only [Res.bind]
    cases compGo st xs <;> simp only [Res.bind]
    cases compGo st ys <;> simp only [Res.bind, List.append_assoc]
theorem compGo_take {st : Dat → Res (Option Rs)} {items : List Dat} {rs : List Rs} (h : compGo st items = .ok rs) (i : Nat) : ∃ a, compGo st (items.take i) = .ok a ∧ a.length ≤ rs.length := by
  have e := compGo_app (st := st) (items.take i) (items.drop i)
  rw [List.take_append_drop, h] at e
  cases e1 : compGo st (items.take i) with
  | no =>
    rw [e1] at e
    cases e
  | exc c =>
    rw [e1] at e
    cases e
  | ok a =>
    refine ⟨a, rfl, ?_⟩
    rw [e1] at e
    cases e2 : compGo st (items.drop i) with
    | no =>
      rw [e2] at e
      cases e
    | exc c =>
      rw [e2] at e
      cases e
    | ok b =>
      rw [e2] at e
      have e : Res.ok rs = Res.ok (a ++ b) := e
      injection e with e
      rw [e]
      simp
theorem compGo_step {st : Dat → Res (Option Rs)} {items : List Dat} {rs a : List Rs} {i : Nat} {d : Dat} (h : compGo st items = .ok rs) (hd : items[i]? = some d) (ha : compGo st (items.take i) = .ok a) :
    ∃ o, st d = .ok o ∧ compGo st (items.take (i + 1)) = .ok (a ++ o.toList) := by
  have et : items.take (i + 1) = items.take i ++ [d] := by
    rw [List.take_add_one, hd]
    rfl
  obtain ⟨b, hb, _⟩ := compGo_take h (i + 1)
  rw [et, compGo_app, ha] at hb
  simp only [Res.bind, compGo] at hb
  cases e : st d with
  | no =>
    rw [e] at hb
    cases hb
  | exc c =>
    rw [e] at hb
    cases hb
  | ok o =>
    refine ⟨o, rfl, ?_⟩
    rw [et, compGo_app, ha]
    simp only [Res.bind, compGo, e, List.append_nil]
section
variable {X : Cx} {W : WX} {k : Nat}
/-- the new list so far -/
structure Acc (G : Glo) (H : Hp) (F : Fp) (T : Tgt) (src : List Nat) (D : Addr) (rs : List Rs) (H' : Hp) (acc : List V) (fpa : List Addr) : Prop where
  at_ : H' D = some (.lst acc)
  rep : RepL G H' (rs.map (·.d)) acc fpa
  nd : D ∉ fpa
  src : ∀ a ∈ fpa, H a = none ∨ ∃ j ∈ (allSrc rs).filter (fun j => decide (j ∉ slotsT T)) ++ src, a ∈ F j
  deep : rs.all isDeep = true → fpa.Nodup ∧ ∀ a ∈ fpa, H a = none ∧ Wr H' a
theorem comp_lc {T : Tgt} {own : List Nat} {fi : Sto → Res (List Dat × List Nat)} {ft : Sto → Res Bool} {fe : Sto → Res Rs} (hT : ∀ i ∈ slotsT T, i ∈ own) {σ : L2.St} {H : Hp} {Q : VK} (h : tEv X W (fComp T own fi ft fe) σ H Q) :
    tLc (tEi X W fi) (gT X.K T) (tEt X Wn ft) (tEv X Wn fe) own σ H Q := by
  obtain ⟨E, F, re, o⟩ := h
  refine ⟨E, F, re, ?_⟩
  unfold fComp at o
  cases e0 : fi E with
  | no =>
    rw [e0] at o
    exact o
  | exc c =>
    rw [e0] at o
    exact o
  | ok p =>
    obtain ⟨items, src⟩ := p
    rw [e0] at o
    simp only [bind_ok] at o
    intro J H1 fp Gd s1 it D hD
    cases e1 : compGo (stepC T (wipeE E own) ft fe) items with
    | no =>
      rw [e1] at o
      exact o.elim
    | exc c =>
      rw [e1] at o
      exact o.elim
    | ok rs =>
      simp only [e1] at o
      by_cases hl : rs.length ≤ 1000000
      · rw [if_pos hl] at o
        have hD0 : H D = none := s1.free hD
        have nfp : D ∉ fp := fun z => it.trk H1 it.now D z hD
        have nF : ∀ j, D ∉ F j := fun j z => re.trk j D z hD0
        have s1D : Same H1 (upd H1 D (.lst [])) := same_new hD
        refine lc_it it.walk (fun i H' => Gd H' ∧ Same H1 H' ∧ ∃ a acc fpa, compGo (stepC T (wipeE E own) ft fe) (items.take i) = .ok a ∧ Acc (glo X) H F T src D a H' acc fpa) ?_ (fun i H' _ q => q.1) ?_ ?_
        · refine ⟨it.keep [] _ _ it.now (Kf.same s1D) (fun _ _ => by simp), s1D, [], [], [], rfl, upd_same, RepL.nil, by simp, (fun _ z => nomatch z), fun _ => ⟨.nil, (fun _ z => nomatch z)⟩⟩
        · rintro i x H2 H3 hi ⟨g2, s2, a, acc, fpa, ea, A⟩ ⟨s3, d, f, hd, rd, hf⟩
          obtain ⟨oo, est, enx⟩ := compGo_step e1 hd ea
          have s03 : Same H H3 := s1.trans (s2.trans s3)
          unfold stepC at est
          cases eb : bindT T d (wipeE E own) with
          | none =>
            rw [eb] at est
            cases est
          | some E1 =>
            simp only [eb] at est
            refine bind_tg (G := glo X) ((re.same s03).wipe own) rd eb fun σ1 F1 B => ⟨(B.wip own hT).trans (wipe_wipe own), E1, F1, B.rep, ?_⟩
            have hF1 : ∀ j, ∀ b ∈ F1 j, (j ∈ slotsT T ∧ b ∈ f) ∨ (j ∉ slotsT T ∧ b ∈ F j) := by
              intro j b hb
              by_cases hj : j ∈ slotsT T
              · exact .inl ⟨hj, B.inn j hj b hb⟩
              · rw [(B.out j hj).1] at hb
                by_cases ho : j ∈ own
                · simp [ho] at hb
                · simp only [ho, if_false] at hb
                  exact .inr ⟨hj, hb⟩
            cases et : ft E1 with
            | no =>
              rw [et] at est
              cases est
            | exc c =>
              rw [et] at est
              cases est
            | ok b =>
              rw [et] at est
              intro H4 s4
              have A4 : Acc (glo X) H F T src D a H4 acc fpa := ⟨s4 _ _ (s3 _ _ A.at_), (A.rep.same s3).same s4, A.nd, A.src, fun z => ⟨(A.deep z).1, fun c hc => ⟨((A.deep z).2 c hc).1, (((A.deep z).2 c hc).2.same s3).same s4⟩⟩⟩
              have g4 : Gd H4 := it.keep [] _ _ g2 (Kf.same (s3.trans s4)) (fun _ _ => by simp)
              cases b with
              | false =>
                simp only [bind_ok, Bool.false_eq_true, if_false] at est
                injection est with est
                subst est
                rw [if_neg Bool.false_ne_true]
                refine ⟨g4, s2.trans (s3.trans s4), a, acc, fpa, ?_, A4⟩
                rw [enx]
                simp
              | true =>
                simp only [bind_ok, if_true] at est
                rw [if_pos rfl]
                refine ⟨E1, F1, B.rep.same s4, ?_⟩
                cases er : fe E1 with
                | no =>
                  rw [er] at est
                  cases est
                | exc c =>
                  rw [er] at est
                  cases est
                | ok r =>
                  rw [er] at est
                  have est : Res.ok (some r) = Res.ok oo := est
                  injection est with est
                  subst est
                  intro y H5 fy s5 gy
                  have at5 : H5 D = some (.lst acc) := s5 _ _ A4.at_
                  have w5 : Wr H5 D := ⟨_, at5, rfl⟩
                  have s45 : Same H2 H5 := s3.trans (s4.trans s5)
                  have la : a.length ≤ 1000000 := by
                    obtain ⟨a', ha', hl'⟩ := compGo_take e1 i
                    rw [ea] at ha'
                    injection ha' with ha'
                    subst ha'
                    omega
                  have lacc : acc.length = a.length := by
                    have := A.rep.len
                    rw [List.length_map] at this
                    exact this
                  have nfy : D ∉ fy := by
                    intro z
                    rcases gy.prv.src D z with q | ⟨j, _, q⟩
                    · rw [A4.at_] at q
                      cases q
                    · rcases hF1 j D q with ⟨_, q⟩ | ⟨_, q⟩
                      · exact nfp (hf D q)
                      · exact nF j q
                  refine ⟨acc, at5, sizeLine_lt (by omega), it.keep [D] _ _ (it.keep [] _ _ g4 (Kf.same s5) (fun _ _ => by simp)) (Kf.upd w5) (fun c hc z => nfp (by
                    have : c = D := by simpa using z
                    rw [← this]
                    exact hc)), fun c o' hc => ?_, a ++ [r], acc ++ [y], fpa ++ fy, by rw [enx]; rfl, upd_same, ?_, fun z => ?_, fun c hc => ?_, fun z => ?_⟩
                  · rw [upd_ne (ne_of_none hc hD)]
                    exact s45 _ _ (s2 _ _ hc)
                  · rw [List.map_append]
                    have q1 := RepL.kp (Kp.upd (o := .lst (acc ++ [y])) w5) _ _ _ (A4.rep.same s5) fun c hc z => A.nd (by
                      have : c = D := by simpa using z
                      rw [← this]
                      exact hc)
                    have q2 := Rep.kp (Kp.upd (o := .lst (acc ++ [y])) w5) _ _ _ gy.rep fun c hc z => nfy (by
                      have : c = D := by simpa using z
                      rw [← this]
                      exact hc)
                    exact q1.app (RepL.one q2)
                  · rcases List.mem_append.mp z with q | q
                    · exact A.nd q
                    · exact nfy q
                  · have asrc : allSrc (a ++ [r]) = allSrc a ++ r.src := by
                      unfold allSrc
                      simp
                    rw [asrc, List.filter_append]
                    rcases List.mem_append.mp hc with q | q
                    · rcases A.src c q with w | ⟨j, hj, w⟩
                      · exact .inl w
                      · refine .inr ⟨j, ?_, w⟩
                        rcases List.mem_append.mp hj with u | u
                        · exact List.mem_append.mpr (.inl (List.mem_append.mpr (.inl u)))
                        · exact List.mem_append.mpr (.inr u)
                    · rcases gy.prv.src c q with w | ⟨j, hj, w⟩
                      · exact .inl ((s03.trans s4).free w)
                      · rcases hF1 j c w with ⟨_, w⟩ | ⟨nj, w⟩
                        · rcases it.src c (hf c w) with v | ⟨l, hl', v⟩
                          · exact .inl v
                          · exact .inr ⟨l, by simp [hl'], v⟩
                        · exact .inr ⟨j, by simp [hj, nj], w⟩
                  · have z1 : a.all isDeep = true ∧ isDeep r = true := by simpa using z
                    obtain ⟨n1, w1⟩ := A.deep z1.1
                    have em : r.mv = some [] := by
                      have := z1.2
                      unfold isDeep at this
                      split at this
                      · assumption
                      · cases this
                    obtain ⟨fr, p1, n2, w2⟩ := gy.prv.mv [] em
                    have p1 : fy.Perm fr := by simpa using p1
                    refine ⟨List.nodup_append.mpr ⟨n1, p1.symm.nodup_iff.mp n2, fun c hc c' hc' e => ?_⟩, fun c hc => ?_⟩
                    · subst e
                      have t1 := RepL.trk _ _ _ A4.rep c hc
                      exact t1 (w2 c (p1.mem_iff.mp hc')).1
                    · have cD : c ≠ D := fun e => by
                        subst e
                        rcases List.mem_append.mp hc with q | q
                        · exact A.nd q
                        · exact nfy q
                      have wup : Wr H5 c → Wr (upd H5 D (.lst (acc ++ [y]))) c := fun ⟨o', e', w'⟩ => ⟨o', by rw [upd_ne cD]; exact e', w'⟩
                      rcases List.mem_append.mp hc with q | q
                      · exact ⟨(w1 c q).1, wup ((w1 c q).2.same s45)⟩
                      · have u := w2 c (p1.mem_iff.mp q)
                        exact ⟨(s03.trans s4).free u.1, wup u.2⟩
        · rintro H2 ⟨g2, s2, a, acc, fpa, ea, A⟩
          rw [List.take_length, e1] at ea
          injection ea with ea
          subst ea
          refine o (.ref D) H2 (D :: fpa) (s1.trans s2) ⟨?_, ?_, fun _ => ⟨D, fpa, rfl, hD0, ⟨_, A.at_, rfl⟩, A.nd⟩, fun m em => ?_⟩
          · show Rep (glo X) H2 (.lst (rs.map (·.d))) (.ref D) (D :: fpa)
            simp only [Rep]
            exact ⟨D, acc, fpa, rfl, A.at_, A.rep, rfl⟩
          · intro c hc
            rcases List.mem_cons.mp hc with q | q
            · rw [q]
              exact .inl hD0
            · exact A.src c q
          · have em : (if rs.all isDeep then some [] else none) = some m := em
            by_cases hz : rs.all isDeep = true
            · rw [if_pos hz] at em
              injection em with em
              subst em
              obtain ⟨n1, w1⟩ := A.deep hz
              refine ⟨D :: fpa, by simp, List.nodup_cons.mpr ⟨A.nd, n1⟩, fun c hc => ?_⟩
              rcases List.mem_cons.mp hc with q | q
              · rw [q]
                exact ⟨hD0, ⟨_, A.at_, rfl⟩⟩
              · exact w1 c q
            · rw [if_neg hz] at em
              cases em
      · rw [if_neg hl] at o
        exact o.elim
/-- [elt for target in iter if test] -/
structure CompOk (X : Cx) (W : WX) (T : Tgt) (own : List (Str × Nat)) (elt tg iter : Expr) (ifs : List Expr) (scope : Scope) (fi : Sto → Res (List Dat × List Nat)) (ft : Sto → Res Bool) (fe : Sto → Res Rs) : Prop where
  sub : ∀ i ∈ slotsT T, i ∈ own.map (·.2)
  pi : PI X tg iter (tEi X W fi)
  blk : BlkOk X.N X.env.scope scope own
  tgt : ∀ (s : Shared) (H : Hp) (C : Addr) (cl : List (Str × Addr)) (fp : List Addr), PG (X.blk s H scope (compEnvC scope cl C X.env) fp) tg (gT X.K T)
  tst : ∀ (s : Shared) (H : Hp) (C : Addr) (cl : List (Str × Addr)) (fp : List Addr), PTs (X.blk s H scope (compEnvC scope cl C X.env) fp) ifs (tEt X Wn ft)
  elt : ∀ (s : Shared) (H : Hp) (C : Addr) (cl : List (Str × Addr)) (fp : List Addr), PE (X.blk s H scope (compEnvC scope cl C X.env) fp) elt (tEv X Wn fe)
theorem ev_comp (C : XOk k X) {T : Tgt} {own : List (Str × Nat)} {elt tg iter : Expr} {ifs : List Expr} {scope : Scope} {pos : Pos} {fi : Sto → Res (List Dat × List Nat)} {ft : Sto → Res Bool} {fe : Sto → Res Rs} (c : CompOk X W T own elt tg iter ifs scope fi ft fe)
    (hs : ∀ x, foldedSetIterable iter X.env x = pure x := by intro _; rfl) : Ev X W (.ListComp elt [⟨tg, iter, ifs, 0⟩] scope pos) (fComp T (own.map (·.2)) fi ft fe) :=
  ⟨weakE (pe_lc C.calm C.nd c.pi c.blk c.tgt c.tst c.elt hs) fun σ H Q h => comp_lc c.sub h⟩
def tTrue : Sto → Res Bool := fun _ => .ok true
theorem pts_true {X' : Cx} : PTs X' [] (tEt X Wn tTrue) := ⟨fun pins s σ H Q I ⟨E, F, re, o⟩ => (pts_nil (X := X')).run pins s σ H Q I (o H (Same.refl H))⟩
end
end PV

namespace PV
open PySem PySem.Spec L2

/-- what a block is run within: the heap at the def's entry, what is locked, what must stand (iterators' lists), what was handed in -/
structure Fx where
  H0 : Hp
  Lk : List Addr
  T : List ((Hp → Prop) × List Addr)
  P : Addr → Prop
  L : Nat → Option (V × List Addr)
def kd (E : Sto) (i : Nat) : Kd := match slot E i with
  | some (_, k) => k
  | none => .shr
def owK (k : Kd) (fp : List Addr) : List Addr := match k with
  | .deep => fp
  | .root => fp.take 1
  | .shr => []
  | .lk => []
/-- a slot's own object may be written -/
def Kd.w : Kd → Bool
  | .deep => true
  | .root => true
  | _ => false
/-- .. and what is walked by a loop that gives it back -/
def swK (k : Kd) (fp : List Addr) : List Addr := match k with
  | .deep => fp
  | .root => fp.take 1
  | .shr => []
  | .lk => fp
def Sw (E : Sto) (F : Fp) (i : Nat) : List Addr := swK (kd E i) (F i)
def Ow (E : Sto) (F : Fp) (i : Nat) : List Addr := owK (kd E i) (F i)
theorem owK_sub {k : Kd} {fp : List Addr} : ∀ a ∈ owK k fp, a ∈ fp := by
  intro a ha
  cases k with
  | deep => exact ha
  | root => exact List.mem_of_mem_take ha
  | shr => cases ha
  | lk => cases ha
theorem swK_sub {k : Kd} {fp : List Addr} : ∀ a ∈ swK k fp, a ∈ fp := by
  intro a ha
  cases k with
  | deep => exact ha
  | root => exact List.mem_of_mem_take ha
  | shr => cases ha
  | lk => exact ha
theorem ow_sw {E : Sto} {F : Fp} {i : Nat} {a : Addr} (h : a ∈ Ow E F i) : a ∈ Sw E F i := by
  unfold Ow at h
  unfold Sw
  cases e : kd E i <;> rw [e] at h <;> first | exact h | cases h
theorem sw_ow {k : Kd} {fp : List Addr} (h : k ≠ .lk) : swK k fp = owK k fp := by
  cases k <;> first | rfl | exact absurd rfl h
structure Prot (t : (Hp → Prop) × List Addr) : Prop where
  keep : ∀ W H H', t.1 H → Kf W H H' → (∀ a ∈ t.2, a ∉ W) → t.1 H'
  trk : ∀ H, t.1 H → ∀ a ∈ t.2, H a ≠ none
  unl : ∀ H H' d od kvs, t.1 H → H d = some (.dK kvs) → t.1 H' → H' d = some (.frz od (.dK kvs)) → t.1 (upd H' d (.dK kvs))
def Frm (B : Fx) (H : Hp) : Prop := ∀ b o, B.H0 b = some o → H b = some o ∨ (b ∈ B.Lk ∧ ∃ ob, H b = some (.frz ob o))
structure R (G : Glo) (B : Fx) (E : Sto) (σ : L2.St) (H : Hp) (F : Fp) : Prop where
  rep : RepE G H E σ F
  own : ∀ i, ∀ a ∈ Ow E F i, Wr H a ∧ B.H0 a = none
  nod : ∀ i, kd E i = .deep → (F i).Nodup
  rot : ∀ i, kd E i = .root → ∃ a f, F i = a :: f ∧ a ∉ f
  sep : ∀ i j, i ≠ j → ∀ a ∈ Sw E F i, a ∉ F j
  pro : ∀ t ∈ B.T, Prot t
  tmp : ∀ t ∈ B.T, t.1 H ∧ ∀ i, ∀ a ∈ Ow E F i, a ∉ t.2
  prv : ∀ i, ∀ a ∈ F i, B.H0 a = none ∨ B.P a
  frm : Frm B H
  lk : ∀ i, kd E i = .lk → ∃ v, B.L i = some (v, F i) ∧ σ[i]? = some (some v)
theorem Frm.same {B : Fx} {H H' : Hp} (f : Frm B H) (s : Same H H') : Frm B H' := fun b o e => (f b o e).imp (s _ _) fun ⟨h, ob, q⟩ => ⟨h, ob, s _ _ q⟩
theorem Frm.new {B : Fx} {H : Hp} (f : Frm B H) {a : Addr} (h : H a = none) : B.H0 a = none := by
  cases e : B.H0 a with
  | none => rfl
  | some o =>
    rcases f a o e with q | ⟨_, ob, q⟩
    · rw [h] at q
      cases q
    · rw [h] at q
      cases q
theorem R.same {G : Glo} {B : Fx} {E : Sto} {σ : L2.St} {H H' : Hp} {F : Fp} (r : R G B E σ H F) (s : Same H H') : R G B E σ H' F :=
  ⟨r.rep.same s, fun i a ha => ⟨(r.own i a ha).1.same s, (r.own i a ha).2⟩, r.nod, r.rot, r.sep, r.pro, fun t ht => ⟨(r.pro t ht).keep [] H H' (r.tmp t ht).1 (Kf.same s) (fun _ _ => by simp), (r.tmp t ht).2⟩, r.prv, r.frm.same s, r.lk⟩
/-- a value in hand, apart from the slots -/
structure Hand (G : Glo) (B : Fx) (E : Sto) (F : Fp) (H : Hp) (d : Dat) (k : Kd) (v : V) (fp : List Addr) : Prop where
  rep : Rep G H d v fp
  own : ∀ a ∈ owK k fp, Wr H a ∧ B.H0 a = none
  nod : k = .deep → fp.Nodup
  rot : k = .root → ∃ a f, fp = a :: f ∧ a ∉ f
  sp1 : ∀ a ∈ owK k fp, ∀ j, a ∉ F j
  sp2 : ∀ j, ∀ a ∈ Sw E F j, a ∉ fp
  tmp : ∀ t ∈ B.T, ∀ a ∈ owK k fp, a ∉ t.2
  prv : ∀ a ∈ fp, B.H0 a = none ∨ B.P a
  nlk : k ≠ .lk
theorem kd_set {E : Sto} {i j : Nat} {d : Dat} {k : Kd} (hi : i < E.length) : kd (E.set i (some (d, k))) j = if j = i then k else kd E j := by
  unfold kd
  rw [slot_set hi]
  by_cases h : j = i
  · simp [h]
  · simp [h]
/-- laid into a slot -/
theorem R.put {G : Glo} {B : Fx} {E : Sto} {σ : L2.St} {H : Hp} {F : Fp} {i : Nat} {d : Dat} {k : Kd} {v : V} {fp : List Addr} (r : R G B E σ H F) (h : Hand G B E F H d k v fp) (hi : i < E.length) :
    R G B (E.set i (some (d, k))) (σ.set i (some v)) H (fun j => if j = i then fp else F j) := by
  have ow : ∀ j, Ow (E.set i (some (d, k))) (fun j => if j = i then fp else F j) j = if j = i then owK k fp else Ow E F j := by
    intro j
    unfold Ow
    rw [kd_set hi]
    by_cases hj : j = i
    · simp [hj]
    · simp [hj]
  have sw : ∀ j, Sw (E.set i (some (d, k))) (fun j => if j = i then fp else F j) j = if j = i then owK k fp else Sw E F j := by
    intro j
    unfold Sw
    rw [kd_set hi]
    by_cases hj : j = i
    · simp [hj, sw_ow h.nlk]
    · simp [hj]
  refine ⟨r.rep.set hi h.rep, fun j a ha => ?_, fun j e => ?_, fun j e => ?_, fun j l n a ha => ?_, r.pro, fun t ht => ⟨(r.tmp t ht).1, fun j a ha => ?_⟩, fun j a ha => ?_, r.frm, fun j e => ?_⟩
  · rw [ow] at ha
    by_cases hj : j = i
    · rw [if_pos hj] at ha
      exact h.own a ha
    · rw [if_neg hj] at ha
      exact r.own j a ha
  · rw [kd_set hi] at e
    by_cases hj : j = i
    · rw [if_pos hj] at e
      simp only [hj, if_true]
      exact h.nod e
    · rw [if_neg hj] at e
      simp only [hj, if_false]
      exact r.nod j e
  · rw [kd_set hi] at e
    by_cases hj : j = i
    · rw [if_pos hj] at e
      simp only [hj, if_true]
      exact h.rot e
    · rw [if_neg hj] at e
      simp only [hj, if_false]
      exact r.rot j e
  · rw [sw] at ha
    by_cases hj : j = i
    · rw [if_pos hj] at ha
      have hl : l ≠ i := fun e => n (hj.trans e.symm)
      simp only [hl, if_false]
      exact h.sp1 a ha l
    · rw [if_neg hj] at ha
      by_cases hl : l = i
      · simp only [hl, if_true]
        exact h.sp2 j a ha
      · simp only [hl, if_false]
        exact r.sep j l n a ha
  · rw [ow] at ha
    by_cases hj : j = i
    · rw [if_pos hj] at ha
      exact h.tmp t ht a ha
    · rw [if_neg hj] at ha
      exact (r.tmp t ht).2 j a ha
  · by_cases hj : j = i
    · simp only [hj, if_true] at ha
      exact h.prv a ha
    · simp only [hj, if_false] at ha
      exact r.prv j a ha
  · rw [kd_set hi] at e
    by_cases hj : j = i
    · rw [if_pos hj] at e
      exact absurd e h.nlk
    · rw [if_neg hj] at e
      obtain ⟨u, q1, q2⟩ := r.lk j e
      refine ⟨u, ?_, ?_⟩
      · simp only [hj, if_false]
        exact q1
      · rw [List.getElem?_set_ne (fun z => hj z.symm)]
        exact q2
/-- slots forgotten -/
theorem RepE.kill {G : Glo} {H : Hp} {E : Sto} {σ : L2.St} {F : Fp} (r : RepE G H E σ F) : ∀ m : List Nat, RepE G H (wipeE E m) σ (fun j => if j ∈ m then [] else F j)
  | [] => by
    have : (fun j => if j ∈ ([] : List Nat) then ([] : List Addr) else F j) = F := by
      funext j
      simp
    rw [this]
    exact r
  | i :: m => by
    have ih := r.kill m
    refine ⟨by rw [wipeE, List.length_set, ih.len], fun j d k e => ?_, fun j e => ?_⟩
    · rw [wipeE, slot_set_none] at e
      by_cases hj : j = i
      · rw [if_pos hj] at e
        cases e
      · rw [if_neg hj] at e
        obtain ⟨v, q1, q2⟩ := ih.rep j d k e
        refine ⟨v, q1, ?_⟩
        by_cases hm : j ∈ m
        · simpa [hj, hm] using q2
        · simpa [hj, hm] using q2
    · rw [wipeE, slot_set_none] at e
      by_cases hj : j = i
      · simp [hj]
      · rw [if_neg hj] at e
        have := ih.emp j e
        by_cases hm : j ∈ m
        · simp [hm]
        · simpa [hj, hm] using this
theorem slot_wipe {E : Sto} {j : Nat} : ∀ {m : List Nat}, slot (wipeE E m) j = if j ∈ m then none else slot E j
  | [] => by simp [wipeE]
  | i :: m => by
    rw [wipeE, slot_set_none, slot_wipe]
    by_cases h : j = i
    · simp [h]
    · simp [h]
theorem kd_wipe {E : Sto} {m : List Nat} {j : Nat} : kd (wipeE E m) j = if j ∈ m then .shr else kd E j := by
  unfold kd
  rw [slot_wipe]
  by_cases h : j ∈ m <;> simp [h]
theorem R.kill {G : Glo} {B : Fx} {E : Sto} {σ : L2.St} {H : Hp} {F : Fp} (r : R G B E σ H F) (m : List Nat) : R G B (wipeE E m) σ H (fun j => if j ∈ m then [] else F j) := by
  have ow : ∀ j, Ow (wipeE E m) (fun j => if j ∈ m then [] else F j) j = if j ∈ m then [] else Ow E F j := by
    intro j
    unfold Ow
    rw [kd_wipe]
    by_cases h : j ∈ m
    · simp [h, owK]
    · simp [h]
  have sw : ∀ j, Sw (wipeE E m) (fun j => if j ∈ m then [] else F j) j = if j ∈ m then [] else Sw E F j := by
    intro j
    unfold Sw
    rw [kd_wipe]
    by_cases h : j ∈ m
    · simp [h, swK]
    · simp [h]
  refine ⟨r.rep.kill m, fun j a ha => ?_, fun j e => ?_, fun j e => ?_, fun j l n a ha => ?_, r.pro, fun t ht => ⟨(r.tmp t ht).1, fun j a ha => ?_⟩, fun j a ha => ?_, r.frm, fun j e => ?_⟩
  · rw [ow] at ha
    by_cases h : j ∈ m
    · simp [h] at ha
    · rw [if_neg h] at ha
      exact r.own j a ha
  · rw [kd_wipe] at e
    by_cases h : j ∈ m
    · simp [h]
    · rw [if_neg h] at e
      simp only [h, if_false]
      exact r.nod j e
  · rw [kd_wipe] at e
    by_cases h : j ∈ m
    · rw [if_pos h] at e
      cases e
    · rw [if_neg h] at e
      simp only [h, if_false]
      exact r.rot j e
  · rw [sw] at ha
    by_cases h : j ∈ m
    · simp [h] at ha
    · rw [if_neg h] at ha
      by_cases hl : l ∈ m
      · simp [hl]
      · simp only [hl, if_false]
        exact r.sep j l n a ha
  · rw [ow] at ha
    by_cases h : j ∈ m
    · simp [h] at ha
    · rw [if_neg h] at ha
      exact (r.tmp t ht).2 j a ha
  · by_cases h : j ∈ m
    · simp [h] at ha
    · simp only [h, if_false] at ha
      exact r.prv j a ha
  · rw [kd_wipe] at e
    by_cases h : j ∈ m
    · rw [if_pos h] at e
      cases e
    · rw [if_neg h] at e
      simp only [h, if_false]
      exact r.lk j e
/-- slots that others may know, too -/
def downE (E : Sto) : List Nat → Sto
  | [] => E
  | j :: js => match slot (downE E js) j with
    | some (d, _) => (downE E js).set j (some (d, .shr))
    | none => downE E js
theorem slot_lt {E : Sto} {i : Nat} {x : Dat × Kd} (h : slot E i = some x) : i < E.length := (List.getElem?_eq_some_iff.mp (slot_some h)).1
theorem downE_at {E : Sto} : ∀ {m : List Nat} {j : Nat}, slot (downE E m) j = if j ∈ m then (slot E j).map (fun x => (x.1, Kd.shr)) else slot E j
  | [], j => by simp [downE]
  | i :: m, j => by
    unfold downE
    cases e : slot (downE E m) i with
    | none =>
      rw [downE_at] at e ⊢
      by_cases h : j = i
      · subst h
        by_cases hm : j ∈ m
        · simp [hm]
        · simp only [hm, if_false] at e
          simp [hm, e]
      · by_cases hm : j ∈ m <;> simp [h, hm]
    | some x =>
      obtain ⟨d, k⟩ := x
      simp only
      rw [slot_set (slot_lt e)]
      by_cases h : j = i
      · subst h
        rw [if_pos rfl]
        rw [downE_at] at e
        by_cases hm : j ∈ m
        · simp only [hm, if_true] at e
          cases es : slot E j with
          | none =>
            rw [es] at e
            cases e
          | some y =>
            rw [es] at e
            simp at e
            simp [e.1]
        · simp only [hm, if_false] at e
          simp [e]
      · rw [if_neg h, downE_at]
        by_cases hm : j ∈ m <;> simp [h, hm]
theorem downE_len {E : Sto} : ∀ {m : List Nat}, (downE E m).length = E.length
  | [] => rfl
  | i :: m => by
    unfold downE
    split
    · rw [List.length_set, downE_len]
    · exact downE_len
theorem kd_down {E : Sto} {m : List Nat} {j : Nat} : kd (downE E m) j = if j ∈ m then .shr else kd E j := by
  unfold kd
  rw [downE_at]
  by_cases h : j ∈ m
  · simp only [h, if_true]
    cases slot E j <;> rfl
  · simp [h]
theorem R.down {G : Glo} {B : Fx} {E : Sto} {σ : L2.St} {H : Hp} {F : Fp} (r : R G B E σ H F) (m : List Nat) : R G B (downE E m) σ H F := by
  have ow : ∀ j, ∀ a ∈ Ow (downE E m) F j, j ∉ m ∧ a ∈ Ow E F j := by
    intro j a ha
    unfold Ow at ha ⊢
    rw [kd_down] at ha
    by_cases h : j ∈ m
    · simp [h, owK] at ha
    · rw [if_neg h] at ha
      exact ⟨h, ha⟩
  have sw : ∀ j, ∀ a ∈ Sw (downE E m) F j, j ∉ m ∧ a ∈ Sw E F j := by
    intro j a ha
    unfold Sw at ha ⊢
    rw [kd_down] at ha
    by_cases h : j ∈ m
    · simp [h, swK] at ha
    · rw [if_neg h] at ha
      exact ⟨h, ha⟩
  refine ⟨⟨by rw [downE_len, r.rep.len], fun j d k e => ?_, fun j e => ?_⟩, fun j a ha => r.own j a (ow j a ha).2, fun j e => ?_, fun j e => ?_, fun j l n a ha => r.sep j l n a (sw j a ha).2, r.pro, fun t ht => ⟨(r.tmp t ht).1, fun j a ha => (r.tmp t ht).2 j a (ow j a ha).2⟩, r.prv, r.frm, fun j e => ?_⟩
  · rw [downE_at] at e
    by_cases h : j ∈ m
    · rw [if_pos h] at e
      cases es : slot E j with
      | none =>
        rw [es] at e
        cases e
      | some y =>
        obtain ⟨d', k'⟩ := y
        rw [es] at e
        simp at e
        obtain ⟨v, q1, q2⟩ := r.rep.rep j d' k' es
        rw [← e.1]
        exact ⟨v, q1, q2⟩
    · rw [if_neg h] at e
      exact r.rep.rep j d k e
  · rw [downE_at] at e
    by_cases h : j ∈ m
    · rw [if_pos h] at e
      cases es : slot E j with
      | none => exact r.rep.emp j es
      | some y =>
        rw [es] at e
        cases e
    · rw [if_neg h] at e
      exact r.rep.emp j e
  · rw [kd_down] at e
    by_cases h : j ∈ m
    · rw [if_pos h] at e
      cases e
    · rw [if_neg h] at e
      exact r.nod j e
  · rw [kd_down] at e
    by_cases h : j ∈ m
    · rw [if_pos h] at e
      cases e
    · rw [if_neg h] at e
      exact r.rot j e
  · rw [kd_down] at e
    by_cases h : j ∈ m
    · rw [if_pos h] at e
      cases e
    · rw [if_neg h] at e
      exact r.lk j e
/-- a value taken: what it holds of slots goes with it, or is known to others from now on -/
def take (keep : Bool) (r : Rs) (E : Sto) : Sto × Kd := match r.mv with
  | some m => if (m == [] || !keep) && m.all (fun j => kd E j == .deep) && decide m.Nodup then (wipeE E m, .deep) else (downE E r.src, if r.rt then .root else .shr)
  | none => (downE E r.src, if r.rt then .root else .shr)
theorem flat_nodup {F : Fp} : ∀ {m : List Nat}, m.Nodup → (∀ i ∈ m, (F i).Nodup) → (∀ i ∈ m, ∀ j ∈ m, i ≠ j → ∀ a ∈ F i, a ∉ F j) → (m.map F).flatten.Nodup
  | [], _, _, _ => .nil
  | i :: m, n, h1, h2 => by
    obtain ⟨n1, n2⟩ := List.nodup_cons.mp n
    rw [List.map_cons, List.flatten_cons]
    refine List.nodup_append.mpr ⟨h1 i (by simp), flat_nodup n2 (fun j hj => h1 j (by simp [hj])) (fun j hj l hl => h2 j (by simp [hj]) l (by simp [hl])), fun a ha b hb e => ?_⟩
    subst e
    obtain ⟨l, hl, hal⟩ := List.mem_flatten.mp hb
    obtain ⟨j, hj, e⟩ := List.mem_map.mp hl
    subst e
    exact h2 i (by simp) j (by simp [hj]) (fun e => n1 (by rw [e]; exact hj)) a ha hal
theorem R.take {G : Glo} {B : Fx} {E : Sto} {σ : L2.St} {H H' : Hp} {F : Fp} {r : Rs} {v : V} {fp : List Addr} (keep : Bool) (x : R G B E σ H F) (s : Same H H') (g : Gv G H F r v H' fp) :
    ∃ F1, R G B (take keep r E).1 σ H' F1 ∧ Hand G B (take keep r E).1 F1 H' r.d (take keep r E).2 v fp := by
  have tr : ∀ t ∈ B.T, ∀ a ∈ t.2, H a ≠ none := fun t ht a ha => (x.pro t ht).trk H (x.tmp t ht).1 a ha
  have pr : ∀ a ∈ fp, B.H0 a = none ∨ B.P a := fun a ha => by
    rcases g.prv.src a ha with q | ⟨i, _, q⟩
    · exact .inl (x.frm.new q)
    · exact x.prv i a q
  have dn : ∃ F1, R G B (downE E r.src) σ H' F1 ∧ Hand G B (downE E r.src) F1 H' r.d (if r.rt then .root else .shr) v fp := by
    have key : ∀ a ∈ owK (if r.rt then Kd.root else Kd.shr) fp, H a = none ∧ Wr H' a := by
      intro a ha
      by_cases h : r.rt = true
      · rw [if_pos h] at ha
        obtain ⟨b, f, e, q1, q2, q3⟩ := g.prv.rt h
        rw [e] at ha
        have : a = b := by simpa [owK] using ha
        rw [this]
        exact ⟨q1, q2⟩
      · rw [if_neg h] at ha
        cases ha
    refine ⟨F, (x.same s).down r.src, g.rep, fun a ha => ⟨(key a ha).2, x.frm.new (key a ha).1⟩, fun e => ?_, fun e => ?_, fun a ha j z => x.rep.trk j a z (key a ha).1, fun j a ha z => ?_, fun t ht a ha z => tr t ht a z (key a ha).1, pr, by split <;> exact fun z => nomatch z⟩
    · by_cases h : r.rt = true <;> simp [h] at e
    · by_cases h : r.rt = true
      · obtain ⟨b, f, e, q1, q2, q3⟩ := g.prv.rt h
        exact ⟨b, f, e, q3⟩
      · simp [h] at e
    · unfold Sw at ha
      rw [kd_down] at ha
      by_cases h : j ∈ r.src
      · simp [h, swK] at ha
      · rw [if_neg h] at ha
        rcases g.prv.src a z with q | ⟨i, hi, q⟩
        · exact x.rep.trk j a (swK_sub a ha) q
        · exact x.sep j i (fun e => h (by rw [e]; exact hi)) a ha q
  unfold PV.take
  cases em : r.mv with
  | none => exact dn
  | some m =>
    simp only
    by_cases hc : ((m == [] || !keep) && m.all (fun j => kd E j == .deep) && decide m.Nodup) = true
    · rw [if_pos hc]
      simp only [Bool.and_eq_true, decide_eq_true_eq] at hc
      obtain ⟨⟨_, hd⟩, hn⟩ := hc
      have hdeep : ∀ j ∈ m, kd E j = .deep := fun j hj => by
        have := List.all_eq_true.mp hd j hj
        simpa using this
      have hOw : ∀ j ∈ m, Ow E F j = F j := fun j hj => by
        unfold Ow
        rw [hdeep j hj]
        rfl
      have hSw : ∀ j ∈ m, Sw E F j = F j := fun j hj => by
        unfold Sw
        rw [hdeep j hj]
        rfl
      obtain ⟨fr, p, nf, wf⟩ := g.prv.mv m em
      have mem : ∀ a ∈ fp, (a ∈ fr) ∨ ∃ i ∈ m, a ∈ F i := fun a ha => by
        rcases List.mem_append.mp (p.mem_iff.mp ha) with q | q
        · exact .inl q
        · obtain ⟨l, hl, hal⟩ := List.mem_flatten.mp q
          obtain ⟨i, hi, e⟩ := List.mem_map.mp hl
          subst e
          exact .inr ⟨i, hi, hal⟩
      refine ⟨_, (x.same s).kill m, g.rep, fun a ha => ?_, fun _ => ?_, (fun e => by cases e), fun a ha j z => ?_, fun j a ha z => ?_, fun t ht a ha z => ?_, pr, (fun z => nomatch z)⟩
      · rcases mem a ha with q | ⟨i, hi, q⟩
        · exact ⟨(wf a q).2, x.frm.new (wf a q).1⟩
        · have := x.own i a (by rw [hOw i hi]; exact q)
          exact ⟨this.1.same s, this.2⟩
      · refine p.nodup_iff.mpr (List.nodup_append.mpr ⟨nf, flat_nodup hn (fun i hi => x.nod i (hdeep i hi)) (fun i hi j hj n a ha => x.sep i j n a (by rw [hSw i hi]; exact ha)), fun a ha b hb e => ?_⟩)
        subst e
        obtain ⟨l, hl, hal⟩ := List.mem_flatten.mp hb
        obtain ⟨i, hi, e⟩ := List.mem_map.mp hl
        subst e
        exact x.rep.trk i a hal (wf a ha).1
      · by_cases hj : j ∈ m
        · simp [hj] at z
        · simp only [hj, if_false] at z
          rcases mem a ha with q | ⟨i, hi, q⟩
          · exact x.rep.trk j a z (wf a q).1
          · exact x.sep i j (fun e => hj (by rw [← e]; exact hi)) a (by rw [hSw i hi]; exact q) z
      · unfold Sw at ha
        rw [kd_wipe] at ha
        by_cases hj : j ∈ m
        · simp [hj, swK] at ha
        · rw [if_neg hj] at ha
          simp only [hj, if_false] at ha
          rcases mem a z with q | ⟨i, hi, q⟩
          · exact x.rep.trk j a (swK_sub a ha) (wf a q).1
          · exact x.sep j i (fun e => hj (by rw [e]; exact hi)) a ha q
      · rcases mem a ha with q | ⟨i, hi, q⟩
        · exact tr t ht a z (wf a q).1
        · exact (x.tmp t ht).2 i a (by rw [hOw i hi]; exact q) z
    · rw [if_neg hc]
      exact dn
end PV

namespace PV
open PySem PySem.Spec L2
inductive Fl where
  | nx (E : Sto) | rt (d : Dat) (deep : Bool) | bk (E : Sto) | ct (E : Sto)
def RPost (G : Glo) (B : Fx) (d : Dat) (dp : Bool) (v : V) (H' : Hp) : Prop :=
  ∃ fp, Rep G H' d v fp ∧ (dp = true → fp.Nodup ∧ ∀ a ∈ fp, Wr H' a ∧ B.H0 a = none) ∧ (∀ a ∈ fp, B.H0 a = none ∨ B.P a) ∧ Frm B H' ∧ ∀ t ∈ B.T, t.1 H'
def OutS (X : Cx) (W : WX) (B : Fx) (D : Ends) (o : Res Fl) : Prop := match o with
  | .ok (.nx E') => ∀ σ' H' F', R (glo X) B E' σ' H' F' → D.nx σ' H'
  | .ok (.rt d dp) => ∀ v H', RPost (glo X) B d dp v H' → D.rt v H'
  | .ok (.bk E') => ∀ σ' H' F', R (glo X) B E' σ' H' F' → D.bk σ' H'
  | .ok (.ct E') => ∀ σ' H' F', R (glo X) B E' σ' H' F' → D.ct σ' H'
  | .exc c => ∀ C σ' H', X.mg (mkS c) = some (.ref C) → Frm B H' → W (.ref C) none σ' H'
  | .no => False
def tEs (X : Cx) (W : WX) (g : Sto → Res Fl) : TS := fun D σ H => ∃ B E F, R (glo X) B E σ H F ∧ OutS X W B D (g E)
structure Es (X : Cx) (W : WX) (st : Stmt) (g : Sto → Res Fl) : Prop where
  ps : PS X st (tEs X W g)
structure Ess (X : Cx) (W : WX) (st : List Stmt) (g : Sto → Res Fl) : Prop where
  pss : PSs X st (tEs X W g)
section
variable {X : Cx} {W : WX} {k : Nat}
def sNil : Sto → Res Fl := fun E => .ok (.nx E)
def sSeq (g h : Sto → Res Fl) : Sto → Res Fl := fun E => (g E).bind fun fl => match fl with
  | .nx E' => h E'
  | fl => .ok fl
theorem ess_nil : Ess X W [] sNil := ⟨weakSs pss_nil fun D σ H ⟨B, E, F, r, o⟩ => o σ H F r⟩
theorem ess_cons {st : Stmt} {rest : List Stmt} {g h : Sto → Res Fl} (a : Es X W st g) (b : Ess X W rest h) : Ess X W (st :: rest) (sSeq g h) := by
  refine ⟨weakSs (pss_cons a.ps b.pss) fun D σ H ⟨B, E, F, r, o⟩ => ⟨B, E, F, r, ?_⟩⟩
  unfold sSeq at o
  cases e : g E with
  | no =>
    rw [e] at o
    exact o
  | exc c =>
    rw [e] at o
    exact o
  | ok fl =>
    rw [e] at o
    cases fl with
    | nx E' => exact fun σ' H' F' r' => ⟨B, E', F', r', o⟩
    | rt d dp => exact o
    | bk E' => exact o
    | ct E' => exact o
theorem ess_one {st : Stmt} {g : Sto → Res Fl} (a : Es X W st g) : Ess X W [st] g := ⟨pss_one a.ps⟩
/-- an expression first -/
theorem seqS {f : Sto → Res Rs} {B : Fx} {E : Sto} {F : Fp} {σ : L2.St} {H : Hp} {kk : Rs → Res Fl} {D : Ends} {Q' : VK} (r : R (glo X) B E σ H F) (o : OutS X W B D ((f E).bind kk))
    (h : ∀ rs v H1 fp, f E = .ok rs → Same H H1 → Gv (glo X) H F rs v H1 fp → OutS X W B D (kk rs) → Q' v H1) : tEv X W f σ H Q' := by
  refine ⟨E, F, r.rep, ?_⟩
  cases e : f E with
  | no =>
    rw [e] at o
    exact o
  | exc c =>
    rw [e] at o
    exact fun C H' m s => o C σ H' m (r.frm.same s)
  | ok rs =>
    intro v H1 fp s1 g
    rw [e] at o
    exact h rs v H1 fp e s1 g o
theorem seqSB {f : Sto → Res Bool} {B : Fx} {E : Sto} {F : Fp} {σ : L2.St} {H : Hp} {kk : Bool → Res Fl} {D : Ends} {Q' : Bool → Hp → Prop} (r : R (glo X) B E σ H F) (o : OutS X W B D ((f E).bind kk))
    (h : ∀ b H1, f E = .ok b → Same H H1 → OutS X W B D (kk b) → Q' b H1) : tEt X W f σ H Q' := by
  refine ⟨E, F, r.rep, ?_⟩
  cases e : f E with
  | no =>
    rw [e] at o
    exact o
  | exc c =>
    rw [e] at o
    exact fun C H' m s => o C σ H' m (r.frm.same s)
  | ok b =>
    intro H1 s1
    rw [e] at o
    exact h b H1 e s1 o
def sPass : Sto → Res Fl := fun E => .ok (.nx E)
def sBrk : Sto → Res Fl := fun E => .ok (.bk E)
def sCnt : Sto → Res Fl := fun E => .ok (.ct E)
theorem es_pass {pos : Pos} : Es X W (.Pass pos) sPass := ⟨weakS ps_pass fun D σ H ⟨B, E, F, r, o⟩ => o σ H F r⟩
def sDrop (f : Sto → Res Rs) : Sto → Res Fl := fun E => (f E).bind fun _ => .ok (.nx E)
theorem es_drop {e : Expr} {pos : Pos} {f : Sto → Res Rs} (he : Ev X W e f) (hs : swapsWith e none pos.line X.env = pure false := by rfl) : Es X W (.Expr e pos) (sDrop f) :=
  ⟨weakS (ps_expr he.pe hs) fun D σ H ⟨B, E, F, r, o⟩ => seqS r o fun rs v H1 fp e1 s1 g o1 => o1 σ H1 F (r.same s1)⟩
def sRet (f : Sto → Res Rs) : Sto → Res Fl := fun E => (f E).bind fun r => .ok (.rt r.d (decide ((PV.take false r E).2 = .deep)))
theorem Hand.post {G : Glo} {B : Fx} {E : Sto} {σ : L2.St} {F : Fp} {H : Hp} {d : Dat} {kd : Kd} {v : V} {fp : List Addr} (r : R G B E σ H F) (h : Hand G B E F H d kd v fp) : RPost G B d (decide (kd = .deep)) v H :=
  ⟨fp, h.rep, fun e => by
    have e := of_decide_eq_true e
    subst e
    exact ⟨h.nod rfl, fun a ha => h.own a ha⟩, h.prv, r.frm, fun t ht => (r.tmp t ht).1⟩
theorem es_ret {e : Expr} {pos : Pos} {f : Sto → Res Rs} (he : Ev X W e f) : Es X W (.Return (some e) pos) (sRet f) :=
  ⟨weakS (ps_ret he.pe) fun D σ H ⟨B, E, F, r, o⟩ => seqS r o fun rs v H1 fp e1 s1 g o1 => by
    obtain ⟨F1, r1, h1⟩ := r.take false s1 g
    exact o1 v H1 (h1.post r1)⟩
def sRetN : Sto → Res Fl := fun _ => .ok (.rt .non true)
def sIf (t : Sto → Res Bool) (g h : Sto → Res Fl) : Sto → Res Fl := fun E => (t E).bind fun b => if b then g E else h E
theorem es_if {c : Expr} {a b : List Stmt} {pos : Pos} {t : Sto → Res Bool} {g h : Sto → Res Fl} (hc : Et X W c t) (ha : Ess X W a g) (hb : Ess X W b h) : Es X W (.If c a b pos) (sIf t g h) := by
  refine ⟨weakS (ps_if hc.pt ha.pss hb.pss) fun D σ H ⟨B, E, F, r, o⟩ => seqSB r o fun b H1 e1 s1 o1 => ?_⟩
  cases b with
  | true =>
    rw [if_pos rfl]
    exact ⟨B, E, F, r.same s1, o1⟩
  | false =>
    rw [if_neg Bool.false_ne_true]
    exact ⟨B, E, F, r.same s1, o1⟩
def sSet (keep : Bool) (i : Nat) (f : Sto → Res Rs) : Sto → Res Fl := fun E => (f E).bind fun r =>
  if i < (PV.take keep r E).1.length then .ok (.nx ((PV.take keep r E).1.set i (some (r.d, (PV.take keep r E).2)))) else .no
/-- a store's reading, however the value is made -/
structure PAsg (X : Cx) (W : WX) (st : Stmt) (i : Nat) (f : Sto → Res Rs) : Prop where
  ps : PS X st (tAsg (tEv X W f) (gName i))
theorem es_set (keep : Bool) {st : Stmt} {i : Nat} {f : Sto → Res Rs} (p : PAsg X W st i f) : Es X W st (sSet keep i f) := by
  refine ⟨weakS p.ps fun D σ H ⟨B, E, F, r, o⟩ => seqS r o fun rs v H1 fp e1 s1 g o1 => ?_⟩
  obtain ⟨F1, r1, h1⟩ := r.take keep s1 g
  by_cases hi : i < (PV.take keep rs E).1.length
  · rw [if_pos hi] at o1
    exact o1 _ H1 _ (r1.put h1 hi)
  · rw [if_neg hi] at o1
    exact o1.elim
theorem pasg {i : Nat} {x : Str} {e : Expr} {pos pos' : Pos} {f : Sto → Res Rs} (C : XOk k X) (he : Ev X W e f) (hi : X.N[i]? = some x := by rfl) (hx : Loc X.env.scope x := by first | exact Or.inl rfl | exact Or.inr rfl) (hs : swapsWith e (some (.Name x pos')) pos.line X.env = pure false := by rfl)
    (hf : X.fn x = true ∨ X.env.scope.names.lookup x = some .local := by first | exact .inl rfl | exact .inr rfl) : PAsg X W (.Assign [.Name x pos'] e pos) i f := ⟨ps_set C.nd hi hx he.pe hs hf⟩
theorem pasgC {i : Nat} {y : Str} {py : Pos} {T : Tgt} {own : List (Str × Nat)} {elt tg iter : Expr} {ifs : List Expr} {scope : Scope} {pos spos : Pos} {fi : Sto → Res (List Dat × List Nat)} {ft : Sto → Res Bool} {fe : Sto → Res Rs} (C : XOk k X) (c : CompOk X W T own elt tg iter ifs scope fi ft fe)
    (hyl : X.env.scope.names.lookup y = some .local) (hk : X.env.scope.kind = .function) (hl : (py.line == pos.line) = true) (ha : (scope.names.any fun (n, k) => n == y && (k == .local || k == .cell)) = false)
    (hy : X.N[i]? = some y := by rfl) (hs : ∀ x, foldedSetIterable iter X.env x = pure x := by intro _; rfl) :
    PAsg X W (.Assign [.Name y py] (.ListComp elt [⟨tg, iter, ifs, 0⟩] scope pos) spos) i (fComp T (own.map (·.2)) fi ft fe) := by
  refine ⟨weakS (ps_setLc C.calm C.nd hy hyl (sw_true hk hyl hl ha) c.pi c.blk c.tgt c.tst c.elt hs) fun D σ H h => ?_⟩
  exact comp_lc c.sub h
/-- a, b = (x, y): plain local names -/
def sPar (is : List Nat) (f : Sto → Res (List Rs)) : Sto → Res Fl := fun E => (f E).bind fun rs =>
  match bindK is (rs.map (·.d)) (PV.take false (rTup rs) E).2 (PV.take false (rTup rs) E).1 with
  | some E' => .ok (.nx E')
  | none => .no
where
  bindK : List Nat → List Dat → Kd → Sto → Option Sto
    | [], [], _, E => some E
    | i :: is, d :: ds, kk, E => if i < E.length ∧ i ∉ is then bindK is ds kk (E.set i (some (d, if kk = .deep then .deep else .shr))) else none
    | _, _, _, _ => none
def sets (σ : L2.St) : List Nat → List V → L2.St
  | i :: is, v :: vs => sets (σ.set i (some v)) is vs
  | _, _ => σ
/-- the parts of what is in hand, into slots one by one -/
theorem put_all {G : Glo} {B : Fx} {H : Hp} {kk : Kd} : ∀ {is : List Nat} {ds : List Dat} {vs : List V} {fp : List Addr} {E E' : Sto} {σ : L2.St} {F : Fp}, R G B E σ H F → RepL G H ds vs fp → (kk = .deep → fp.Nodup ∧ ∀ a ∈ fp, Wr H a ∧ B.H0 a = none) → (kk = .deep → ∀ a ∈ fp, ∀ j, a ∉ F j) → (kk = .deep → ∀ t ∈ B.T, ∀ a ∈ fp, a ∉ t.2) →
    (∀ j, ∀ a ∈ Sw E F j, a ∉ fp) → (∀ a ∈ fp, B.H0 a = none ∨ B.P a) → sPar.bindK is ds kk E = some E' → ∃ F', R G B E' (sets σ is vs) H F'
  | [], [], vs, fp, E, E', σ, F, r, rl, _, _, _, _, _, e => by
    simp only [sPar.bindK] at e
    cases e
    simp only [RepL] at rl
    rw [rl.1]
    exact ⟨F, r⟩
  | [], _ :: _, _, _, _, _, _, _, _, _, _, _, _, _, _, e => by simp only [sPar.bindK] at e; cases e
  | _ :: _, [], _, _, _, _, _, _, _, _, _, _, _, _, _, e => by simp only [sPar.bindK] at e; cases e
  | i :: is, d :: ds, vs, fp, E, E', σ, F, r, rl, h1, h2, h3, h4, h5, e => by
    simp only [RepL] at rl
    obtain ⟨v, vs', f, f', e1, e2, rd, rr⟩ := rl
    subst e1
    subst e2
    simp only [sPar.bindK] at e
    by_cases hi : i < E.length ∧ i ∉ is
    · rw [if_pos hi] at e
      have hd : Hand G B E F H d (if kk = .deep then .deep else .shr) v f := by
        by_cases hk : kk = .deep
        · rw [if_pos hk]
          obtain ⟨n, w⟩ := h1 hk
          exact ⟨rd, fun a ha => w a (by simp [show a ∈ f from ha]), fun _ => (List.nodup_append.mp n).1, (fun z => by cases z), fun a ha j => h2 hk a (by simp [show a ∈ f from ha]) j, fun j a ha z => h4 j a ha (by simp [z]), fun t ht a ha => h3 hk t ht a (by simp [show a ∈ f from ha]), fun a ha => h5 a (by simp [ha]), (fun z => nomatch z)⟩
        · rw [if_neg hk]
          exact ⟨rd, (fun a ha => nomatch ha), (fun z => by cases z), (fun z => by cases z), (fun a ha => nomatch ha), fun j a ha z => h4 j a ha (by simp [z]), (fun t ht a ha => nomatch ha), fun a ha => h5 a (by simp [ha]), (fun z => nomatch z)⟩
      have r1 := r.put hd hi.1
      show ∃ F', R G B E' (sets (σ.set i (some v)) is vs') H F'
      refine put_all r1 rr (fun hk => ⟨(List.nodup_append.mp (h1 hk).1).2.1, fun a ha => (h1 hk).2 a (by simp [ha])⟩) (fun hk a ha j z => ?_) (fun hk t ht a ha => h3 hk t ht a (by simp [ha])) (fun j a ha z => ?_) (fun a ha => h5 a (by simp [ha])) e
      · by_cases hj : j = i
        · simp only [hj, if_true] at z
          exact (List.nodup_append.mp (h1 hk).1).2.2 a z a ha rfl
        · simp only [hj, if_false] at z
          exact h2 hk a (by simp [ha]) j z
      · unfold Sw at ha
        rw [kd_set hi.1] at ha
        by_cases hj : j = i
        · simp only [hj, if_true] at ha
          by_cases hk : kk = .deep
          · rw [if_pos hk] at ha
            exact (List.nodup_append.mp (h1 hk).1).2.2 a ha a z rfl
          · rw [if_neg hk] at ha
            cases ha
        · simp only [hj, if_false] at ha
          exact h4 j a ha (by simp [z])
    · rw [if_neg hi] at e
      cases e
theorem seqSA {f : Sto → Res (List Rs)} {B : Fx} {E : Sto} {F : Fp} {σ : L2.St} {H : Hp} {kk : List Rs → Res Fl} {D : Ends} {Q' : List V → Hp → Prop} (r : R (glo X) B E σ H F) (o : OutS X W B D ((f E).bind kk))
    (h : ∀ rs vs H1 fp, f E = .ok rs → Same H H1 → GvL (glo X) H F rs vs H1 fp → OutS X W B D (kk rs) → Q' vs H1) : tEa X W f σ H Q' := by
  refine ⟨E, F, r.rep, ?_⟩
  cases e : f E with
  | no =>
    rw [e] at o
    exact o
  | exc c =>
    rw [e] at o
    exact fun C H' m s => o C σ H' m (r.frm.same s)
  | ok rs =>
    intro v H1 fp s1 g
    rw [e] at o
    exact h rs v H1 fp e s1 g o
/-- several values, as a tuple of them would be taken -/
theorem R.takeL {G : Glo} {B : Fx} {E : Sto} {σ : L2.St} {H H' : Hp} {F : Fp} {rs : List Rs} {vs : List V} {fp : List Addr} {is : List Nat} {E' : Sto} (x : R G B E σ H F) (s : Same H H') (g : GvL G H F rs vs H' fp)
    (e : sPar.bindK is (rs.map (·.d)) (PV.take false (rTup rs) E).2 (PV.take false (rTup rs) E).1 = some E') : ∃ F', R G B E' (sets σ is vs) H' F' := by
  obtain ⟨p1, p2⟩ := g.prov (fun i => x.rep.trk i)
  -- a tuple of them that nobody holds: only for the account
  have gv : ∀ (p : Addr), H' p = none → Gv G H F (rTup rs) (.ref p) (upd H' p (.tup vs)) fp := fun p hp => by
    refine ⟨?_, p1, (fun z => nomatch z), fun m em => ?_⟩
    · show Rep G (upd H' p (.tup vs)) (.tup (rs.map (·.d))) (.ref p) fp
      simp only [Rep]
      exact ⟨p, vs, rfl, .inl (.inl upd_same), g.reps.same (same_new hp)⟩
    · obtain ⟨fr, q1, q2, q3⟩ := p2 m em
      exact ⟨fr, q1, q2, fun a ha => ⟨(q3 a ha).1, (q3 a ha).2.same (same_new hp)⟩⟩
  -- the account itself needs no such tuple
  have key : ∃ F1, R G B (PV.take false (rTup rs) E).1 σ H' F1 ∧ ((PV.take false (rTup rs) E).2 = .deep → fp.Nodup ∧ ∀ a ∈ fp, Wr H' a ∧ B.H0 a = none) ∧ ((PV.take false (rTup rs) E).2 = .deep → ∀ a ∈ fp, ∀ j, a ∉ F1 j) ∧ ((PV.take false (rTup rs) E).2 = .deep → ∀ t ∈ B.T, ∀ a ∈ fp, a ∉ t.2) ∧
      (∀ j, ∀ a ∈ Sw (PV.take false (rTup rs) E).1 F1 j, a ∉ fp) ∧ (∀ a ∈ fp, B.H0 a = none ∨ B.P a) := by
    have tr : ∀ t ∈ B.T, ∀ a ∈ t.2, H a ≠ none := fun t ht a ha => (x.pro t ht).trk H (x.tmp t ht).1 a ha
    have pr : ∀ a ∈ fp, B.H0 a = none ∨ B.P a := fun a ha => by
      rcases p1 a ha with q | ⟨i, _, q⟩
      · exact .inl (x.frm.new q)
      · exact x.prv i a q
    have dn : ∃ F1, R G B (downE E (rTup rs).src) σ H' F1 ∧ (Kd.shr = .deep → fp.Nodup ∧ ∀ a ∈ fp, Wr H' a ∧ B.H0 a = none) ∧ (Kd.shr = .deep → ∀ a ∈ fp, ∀ j, a ∉ F1 j) ∧ (Kd.shr = .deep → ∀ t ∈ B.T, ∀ a ∈ fp, a ∉ t.2) ∧
        (∀ j, ∀ a ∈ Sw (downE E (rTup rs).src) F1 j, a ∉ fp) ∧ (∀ a ∈ fp, B.H0 a = none ∨ B.P a) := by
      refine ⟨F, (x.same s).down _, (fun z => by cases z), (fun z => by cases z), (fun z => by cases z), fun j a ha z => ?_, pr⟩
      unfold Sw at ha
      rw [kd_down] at ha
      by_cases h : j ∈ (rTup rs).src
      · simp [h, swK] at ha
      · rw [if_neg h] at ha
        rcases p1 a z with q | ⟨i, hi, q⟩
        · exact x.rep.trk j a (swK_sub a ha) q
        · exact x.sep j i (fun e => h (by rw [e]; exact hi)) a ha q
    unfold PV.take
    cases em : (rTup rs).mv with
    | none => exact dn
    | some m =>
      simp only
      by_cases hc : ((m == [] || !false) && m.all (fun j => kd E j == .deep) && decide m.Nodup) = true
      · rw [if_pos hc]
        simp only [Bool.and_eq_true, decide_eq_true_eq] at hc
        obtain ⟨⟨_, hd⟩, hn⟩ := hc
        have hdeep : ∀ j ∈ m, kd E j = .deep := fun j hj => by
          have := List.all_eq_true.mp hd j hj
          simpa using this
        have hOw : ∀ j ∈ m, Ow E F j = F j := fun j hj => by
          unfold Ow
          rw [hdeep j hj]
          rfl
        have hSw : ∀ j ∈ m, Sw E F j = F j := fun j hj => by
          unfold Sw
          rw [hdeep j hj]
          rfl
        obtain ⟨fr, p, nf, wf⟩ := p2 m em
        have mem : ∀ a ∈ fp, (a ∈ fr) ∨ ∃ i ∈ m, a ∈ F i := fun a ha => by
          rcases List.mem_append.mp (p.mem_iff.mp ha) with q | q
          · exact .inl q
          · obtain ⟨l, hl, hal⟩ := List.mem_flatten.mp q
            obtain ⟨i, hi, e⟩ := List.mem_map.mp hl
            subst e
            exact .inr ⟨i, hi, hal⟩
        refine ⟨_, (x.same s).kill m, fun _ => ⟨?_, fun a ha => ?_⟩, fun _ a ha j z => ?_, fun _ t ht a ha z => ?_, fun j a ha z => ?_, pr⟩
        · refine p.nodup_iff.mpr (List.nodup_append.mpr ⟨nf, flat_nodup hn (fun i hi => x.nod i (hdeep i hi)) (fun i hi j hj n a ha => x.sep i j n a (by rw [hSw i hi]; exact ha)), fun a ha b hb e => ?_⟩)
          subst e
          obtain ⟨l, hl, hal⟩ := List.mem_flatten.mp hb
          obtain ⟨i, hi, e⟩ := List.mem_map.mp hl
          subst e
          exact x.rep.trk i a hal (wf a ha).1
        · rcases mem a ha with q | ⟨i, hi, q⟩
          · exact ⟨(wf a q).2, x.frm.new (wf a q).1⟩
          · have := x.own i a (by rw [hOw i hi]; exact q)
            exact ⟨this.1.same s, this.2⟩
        · by_cases hj : j ∈ m
          · simp [hj] at z
          · simp only [hj, if_false] at z
            rcases mem a ha with q | ⟨i, hi, q⟩
            · exact x.rep.trk j a z (wf a q).1
            · exact x.sep i j (fun e => hj (by rw [← e]; exact hi)) a (by rw [hSw i hi]; exact q) z
        · rcases mem a ha with q | ⟨i, hi, q⟩
          · exact tr t ht a z (wf a q).1
          · exact (x.tmp t ht).2 i a (by rw [hOw i hi]; exact q) z
        · unfold Sw at ha
          rw [kd_wipe] at ha
          by_cases hj : j ∈ m
          · simp [hj, swK] at ha
          · rw [if_neg hj] at ha
            simp only [hj, if_false] at ha
            rcases mem a z with q | ⟨i, hi, q⟩
            · exact x.rep.trk j a (swK_sub a ha) (wf a q).1
            · exact x.sep j i (fun e => hj (by rw [e]; exact hi)) a ha q
      · rw [if_neg hc]
        exact dn
  obtain ⟨F1, r1, k1, k2, k3, k4, k5⟩ := key
  exact put_all r1 g.reps k1 k2 k3 k4 k5 e
theorem es_par2 (C : XOk k X) {i j : Nat} {x y : Str} {a b : Expr} {f : Sto → Res (List Rs)} {px py pt pos : Pos} {kt k2 pt2} (ha : Ea X W [a, b] f) (hij : i ≠ j)
    (hx : X.env.scope.names.lookup x = some .local) (hy : X.env.scope.names.lookup y = some .local)
    (hw : swappedStores [.Tuple [.Name x px, .Name y py] kt pt] (.Tuple [a, b] k2 pt2) X.env = pure (some [x, y])) (hi : X.N[i]? = some x := by rfl) (hj : X.N[j]? = some y := by rfl)
    (hs : swapsWithSole [.Tuple [.Name x px, .Name y py] kt pt] (.Tuple [a, b] k2 pt2) pos.line X.env = pure false := by rfl) :
    Es X W (.Assign [.Tuple [.Name x px, .Name y py] kt pt] (.Tuple [a, b] k2 pt2) pos) (sPar [i, j] f) := by
  refine ⟨weakS (ps_par C.calm C.nd hi hj hij hx hy ha.pa hw hs) fun D σ H ⟨B, E, F, r, o⟩ => seqSA r o fun rs vs H1 fp e1 s1 g o1 => ?_⟩
  cases eb : sPar.bindK [i, j] (rs.map (·.d)) (PV.take false (rTup rs) E).2 (PV.take false (rTup rs) E).1 with
  | none =>
    rw [eb] at o1
    exact o1.elim
  | some E' =>
    rw [eb] at o1
    obtain ⟨F', r'⟩ := r.takeL s1 g eb
    have hl := g.len
    have h2 : rs.length = 2 := by
      match rs, eb with
      | [], eb => simp [sPar.bindK] at eb
      | [_], eb => simp [sPar.bindK] at eb
      | [_, _], _ => rfl
      | _ :: _ :: _ :: _, eb => simp [sPar.bindK] at eb
    obtain ⟨u, v, e⟩ : ∃ u v, vs = [u, v] := by
      match vs, hl.trans h2 with
      | [u, v], _ => exact ⟨u, v, rfl⟩
    subst e
    exact ⟨u, v, rfl, o1 _ H1 F' r'⟩
theorem es_par3 (C : XOk k X) {i j l : Nat} {x y z : Str} {a b c : Expr} {f : Sto → Res (List Rs)} {px py pz pt pos : Pos} {kt k2 pt2} (ha : Ea X W [a, b, c] f) (hij : i ≠ j) (hil : i ≠ l) (hjl : j ≠ l)
    (hx : X.env.scope.names.lookup x = some .local) (hy : X.env.scope.names.lookup y = some .local) (hz : X.env.scope.names.lookup z = some .local)
    (hw : swappedStores [.Tuple [.Name x px, .Name y py, .Name z pz] kt pt] (.Tuple [a, b, c] k2 pt2) X.env = pure (some [x, y, z])) (hi : X.N[i]? = some x := by rfl) (hj : X.N[j]? = some y := by rfl) (hl : X.N[l]? = some z := by rfl)
    (hs : swapsWithSole [.Tuple [.Name x px, .Name y py, .Name z pz] kt pt] (.Tuple [a, b, c] k2 pt2) pos.line X.env = pure false := by rfl) :
    Es X W (.Assign [.Tuple [.Name x px, .Name y py, .Name z pz] kt pt] (.Tuple [a, b, c] k2 pt2) pos) (sPar [i, j, l] f) := by
  refine ⟨weakS (ps_par3 C.calm C.nd hi hj hl hij hil hjl hx hy hz ha.pa hw hs) fun D σ H ⟨B, E, F, r, o⟩ => seqSA r o fun rs vs H1 fp e1 s1 g o1 => ?_⟩
  cases eb : sPar.bindK [i, j, l] (rs.map (·.d)) (PV.take false (rTup rs) E).2 (PV.take false (rTup rs) E).1 with
  | none =>
    rw [eb] at o1
    exact o1.elim
  | some E' =>
    rw [eb] at o1
    obtain ⟨F', r'⟩ := r.takeL s1 g eb
    have hl := g.len
    have h2 : rs.length = 3 := by
      match rs, eb with
      | [], eb => simp [sPar.bindK] at eb
      | [_], eb => simp [sPar.bindK] at eb
      | [_, _], eb => simp [sPar.bindK] at eb
      | [_, _, _], _ => rfl
      | _ :: _ :: _ :: _ :: _, eb => simp [sPar.bindK] at eb
    obtain ⟨u, v, w, e⟩ : ∃ u v w, vs = [u, v, w] := by
      match vs, hl.trans h2 with
      | [u, v, w], _ => exact ⟨u, v, w, rfl⟩
    subst e
    exact ⟨u, v, w, rfl, o1 _ H1 F' r'⟩
end
end PV

namespace PV
open PySem PySem.Spec L2
section
variable {X : Cx} {W : WX} {k : Nat}
def whileGo (t : Sto → Res Bool) (g : Sto → Res Fl) : Nat → Sto → Res Fl
  | 0, _ => .no
  | n + 1, E => (t E).bind fun b => if b then (g E).bind fun fl => match fl with
      | .nx E' => whileGo t g n E'
      | .ct E' => whileGo t g n E'
      | .bk E' => .ok (.nx E')
      | .rt d dp => .ok (.rt d dp)
    else .ok (.nx E)
theorem es_while (n : Nat) (po : PassesOwn (model X.prog X.w) X.A X.env X.xe) {c : Expr} {body : List Stmt} {pos : Pos} {t : Sto → Res Bool} {g : Sto → Res Fl} (hc : Et X W c t) (hb : Ess X W body g) : Es X W (.While c body [] pos) (whileGo t g n) := by
  refine ⟨weakS (ps_while po hc.pt hb.pss) fun D σ H ⟨B, E, F, r, o⟩ => ?_⟩
  refine ⟨fun m σ H => ∃ E F, R (glo X) B E σ H F ∧ OutS X W B D (whileGo t g m E), ⟨n, E, F, r, o⟩, ?_⟩
  rintro m σ1 H1 ⟨E1, F1, r1, o1⟩
  cases m with
  | zero => exact o1.elim
  | succ m =>
    refine seqSB r1 o1 fun b H2 e2 s2 o2 => ?_
    cases b with
    | false =>
      rw [if_neg Bool.false_ne_true] at o2 ⊢
      exact o2 σ1 H2 F1 (r1.same s2)
    | true =>
      rw [if_pos rfl] at o2 ⊢
      refine ⟨fun σ' H' => ∃ E F, R (glo X) B E σ' H' F ∧ OutS X W B D (whileGo t g m E), fun σ' H' q => ⟨m, Nat.lt_succ_self m, q⟩, B, E1, F1, r1.same s2, ?_⟩
      cases e3 : g E1 with
      | no =>
        rw [e3] at o2
        exact o2
      | exc c =>
        rw [e3] at o2
        exact o2
      | ok fl =>
        rw [e3] at o2
        cases fl with
        | nx E' => exact fun σ' H' F' r' => ⟨E', F', r', o2⟩
        | ct E' => exact fun σ' H' F' r' => ⟨E', F', r', o2⟩
        | bk E' => exact o2
        | rt d dp => exact o2
def forGo (T : Tgt) (g : Sto → Res Fl) : List Dat → Sto → Res Fl
  | [], E => .ok (.nx E)
  | d :: ds, E => match bindT T d E with
    | none => .no
    | some E1 => (g E1).bind fun fl => match fl with
      | .nx E' => forGo T g ds E'
      | .ct E' => forGo T g ds E'
      | .bk E' => .ok (.nx E')
      | .rt d dp => .ok (.rt d dp)
def sFor (T : Tgt) (fi : Sto → Res (List Dat × List Nat)) (g : Sto → Res Fl) : Sto → Res Fl := fun E => (fi E).bind fun p => forGo T g p.1 (downE E p.2)
/-- within a loop: what it leans on must stand, too -/
def Fx.with (B : Fx) (t : (Hp → Prop) × List Addr) (E0 : Sto) : Fx := ⟨B.H0, B.Lk, t :: B.T, B.P, fun j => if kd E0 j = .lk then B.L j else none⟩
theorem with_lk {B : Fx} {t : (Hp → Prop) × List Addr} {E0 : Sto} {j : Nat} {x : V × List Addr} (h : (B.with t E0).L j = some x) : kd E0 j = .lk ∧ B.L j = some x := by
  have h : (if kd E0 j = .lk then B.L j else none) = some x := h
  by_cases e : kd E0 j = .lk
  · rw [if_pos e] at h
    exact ⟨e, h⟩
  · rw [if_neg e] at h
    cases h
theorem R.less {G : Glo} {B : Fx} {t : (Hp → Prop) × List Addr} {E0 E : Sto} {σ : L2.St} {H : Hp} {F : Fp} (r : R G (B.with t E0) E σ H F) : R G B E σ H F :=
  ⟨r.rep, r.own, r.nod, r.rot, r.sep, fun u hu => r.pro u (List.mem_cons_of_mem _ hu), fun u hu => r.tmp u (List.mem_cons_of_mem _ hu), r.prv, r.frm, fun i e => let ⟨v, q1, q2⟩ := r.lk i e; ⟨v, (with_lk q1).2, q2⟩⟩
theorem R.more {G : Glo} {B : Fx} {t : (Hp → Prop) × List Addr} {E : Sto} {σ : L2.St} {H : Hp} {F : Fp} (r : R G B E σ H F) (p : Prot t) (h : t.1 H) (n : ∀ i, ∀ a ∈ Ow E F i, a ∉ t.2) : R G (B.with t E) E σ H F :=
  ⟨r.rep, r.own, r.nod, r.rot, r.sep, fun u hu => (List.mem_cons.mp hu).elim (fun e => e ▸ p) (r.pro u), fun u hu => (List.mem_cons.mp hu).elim (fun e => e ▸ ⟨h, n⟩) (r.tmp u), r.prv, r.frm, fun i e => let ⟨v, q1, q2⟩ := r.lk i e; ⟨v, (if_pos e).trans q1, q2⟩⟩
/-- a loop's names hold what is known to others -/
theorem R.bnd {G : Glo} {B : Fx} {E E1 : Sto} {σ σ1 : L2.St} {H : Hp} {F F1 : Fp} {l : List Nat} {f : List Addr} (r : R G B E σ H F) (b : Bnd G H E σ F l f E1 σ1 F1) (h1 : ∀ i, ∀ a ∈ Sw E F i, a ∉ f) (h2 : ∀ a ∈ f, B.H0 a = none ∨ B.P a) : R G B E1 σ1 H F1 := by
  have kk : ∀ j, kd E1 j = if j ∈ l then .shr else kd E j := by
    intro j
    by_cases h : j ∈ l
    · rw [if_pos h]
      unfold kd
      cases e : slot E1 j with
      | none => rfl
      | some x => exact b.kin j x.1 x.2 h e
    · rw [if_neg h]
      unfold kd
      rw [(b.out j h).2]
  have ow : ∀ j, ∀ a ∈ Ow E1 F1 j, j ∉ l ∧ a ∈ Ow E F j := by
    intro j a ha
    unfold Ow at ha ⊢
    rw [kk] at ha
    by_cases h : j ∈ l
    · rw [if_pos h] at ha
      cases ha
    · rw [if_neg h, (b.out j h).1] at ha
      exact ⟨h, ha⟩
  have sw : ∀ j, ∀ a ∈ Sw E1 F1 j, j ∉ l ∧ a ∈ Sw E F j := by
    intro j a ha
    unfold Sw at ha ⊢
    rw [kk] at ha
    by_cases h : j ∈ l
    · rw [if_pos h] at ha
      cases ha
    · rw [if_neg h, (b.out j h).1] at ha
      exact ⟨h, ha⟩
  refine ⟨b.rep, fun i a ha => r.own i a (ow i a ha).2, fun i e => ?_, fun i e => ?_, fun i j n a ha z => ?_, r.pro, fun t ht => ⟨(r.tmp t ht).1, fun i a ha => (r.tmp t ht).2 i a (ow i a ha).2⟩, fun i a ha => ?_, r.frm, fun i e => ?_⟩
  · rw [kk] at e
    by_cases h : i ∈ l
    · rw [if_pos h] at e
      cases e
    · rw [if_neg h] at e
      rw [(b.out i h).1]
      exact r.nod i e
  · rw [kk] at e
    by_cases h : i ∈ l
    · rw [if_pos h] at e
      cases e
    · rw [if_neg h] at e
      rw [(b.out i h).1]
      exact r.rot i e
  · obtain ⟨_, q⟩ := sw i a ha
    by_cases h : j ∈ l
    · exact h1 i a q (b.inn j h a z)
    · rw [(b.out j h).1] at z
      exact r.sep i j n a q z
  · by_cases h : i ∈ l
    · exact h2 a (b.inn i h a ha)
    · rw [(b.out i h).1] at ha
      exact r.prv i a ha
  · rw [kk] at e
    by_cases h : i ∈ l
    · rw [if_pos h] at e
      cases e
    · rw [if_neg h] at e
      obtain ⟨v, q1, q2⟩ := r.lk i e
      refine ⟨v, by rw [(b.out i h).1]; exact q1, ?_⟩
      have h3 := b.wip l fun _ q => q
      have h4 : ∀ (m : List Nat) (σ : L2.St), i ∉ m → (wipe σ m)[i]? = σ[i]? := by
        intro m
        induction m with
        | nil => exact fun _ _ => rfl
        | cons x m ih =>
          intro σ hm
          show ((wipe σ m).set x none)[i]? = σ[i]?
          rw [List.getElem?_set_ne (fun z => hm (by rw [z]; exact List.mem_cons_self)), ih σ (fun z => hm (List.mem_cons_of_mem _ z))]
      have h5 := congrArg (fun s : L2.St => s[i]?) h3
      simp only [h4 l _ h] at h5
      rw [h5]
      exact q2
theorem OutS.less {B : Fx} {t : (Hp → Prop) × List Addr} {E0 : Sto} {D : Ends} {o : Res Fl} (h : OutS X W B D o) : OutS X W (B.with t E0) D o := by
  cases o with
  | no => exact h
  | exc c => exact h
  | ok fl =>
    cases fl with
    | nx E' => exact fun σ' H' F' r' => h σ' H' F' r'.less
    | ct E' => exact fun σ' H' F' r' => h σ' H' F' r'.less
    | bk E' => exact fun σ' H' F' r' => h σ' H' F' r'.less
    | rt d dp => exact fun v H' ⟨fp, h1, h2, h3, h4, h5⟩ => h v H' ⟨fp, h1, h2, h3, h4, fun t ht => h5 t (List.mem_cons_of_mem _ ht)⟩
theorem for_weak {T : Tgt} {fi : Sto → Res (List Dat × List Nat)} {g : Sto → Res Fl} (D : Ends) (σ : L2.St) (H : Hp) (h : tEs X W (sFor T fi g) D σ H) : tFor (tEi X W fi) (gT X.K T) (tEs X W g) D σ H := by
  obtain ⟨B, E, F, r, o⟩ := h
  refine ⟨E, F, r.rep, ?_⟩
  unfold sFor at o
  cases e0 : fi E with
  | no =>
    rw [e0] at o
    exact o
  | exc c =>
    rw [e0] at o
    exact fun C' H' m s => o C' σ H' m (r.frm.same s)
  | ok p =>
    obtain ⟨items, src⟩ := p
    rw [e0] at o
    intro J H1 fp Gd s1 it
    have pro : Prot (Gd, fp) := ⟨it.keep, it.trk, it.unl⟩
    have pfp : ∀ a ∈ fp, B.H0 a = none ∨ B.P a := fun a ha => by
      rcases it.src a ha with q | ⟨i, _, q⟩
      · exact .inl (r.frm.new q)
      · exact r.prv i a q
    have r0 : R (glo X) B (downE E src) σ H1 F := (r.same s1).down src
    have hdis : ∀ i, kd (downE E src) i = .lk → ∀ a ∈ F i, a ∉ fp := fun i hk a ha z => by
      rw [kd_down] at hk
      by_cases h : i ∈ src
      · rw [if_pos h] at hk
        cases hk
      · rw [if_neg h] at hk
        rcases it.src a z with q | ⟨j, hj, q⟩
        · exact r.rep.trk i a ha q
        · refine r.sep i j (fun e => h (by rw [e]; exact hj)) a ?_ q
          unfold Sw
          rw [hk]
          exact ha
    have r1 : R (glo X) (B.with (Gd, fp) (downE E src)) (downE E src) σ H1 F := by
      refine ((r.same s1).down src).more pro it.now fun i a ha z => ?_
      unfold Ow at ha
      rw [kd_down] at ha
      by_cases h : i ∈ src
      · simp [h, owK] at ha
      · rw [if_neg h] at ha
        rcases it.src a z with q | ⟨j, hj, q⟩
        · exact r.rep.trk i a (owK_sub a ha) q
        · exact r.sep i j (fun e => h (by rw [e]; exact hj)) a (ow_sw ha) q
    refine for_it it.walk (fun i σ' H' => ∃ E' F', R (glo X) (B.with (Gd, fp) (downE E src)) E' σ' H' F' ∧ OutS X W B D (forGo T g (items.drop i) E')) ⟨_, F, r1, (show OutS X W B D (forGo T g (items.drop 0) (downE E src)) from by rw [List.drop_zero]; exact o)⟩ (fun i σ' H' _ ⟨E', F', r', _⟩ => (r'.tmp (Gd, fp) (List.mem_cons_self)).1) ?_ ?_
    · rintro i x σ2 H2 H3 hi ⟨E2, F2, r2, o2⟩ ⟨s3, d, f, hd, rd, hf⟩
      have ed : items.drop i = d :: items.drop (i + 1) := by
        have hl := (List.getElem?_eq_some_iff.mp hd)
        obtain ⟨hl, ee⟩ := hl
        rw [List.drop_eq_getElem_cons hl, ee]
      rw [ed] at o2
      simp only [forGo] at o2
      cases eb : bindT T d E2 with
      | none =>
        rw [eb] at o2
        exact o2.elim
      | some E3 =>
        simp only [eb] at o2
        have r3 := r2.same s3
        refine bind_tg (G := glo X) r3.rep rd eb fun σ3 F3 bb => ⟨B.with (Gd, fp) (downE E src), E3, F3, r3.bnd bb (fun i a ha z => by
          by_cases hk : kd E2 i = .lk
          · obtain ⟨v, q1, _⟩ := r3.lk i hk
            obtain ⟨e1, e2⟩ := with_lk q1
            obtain ⟨v', q1', _⟩ := r0.lk i e1
            rw [e2] at q1'
            injection q1' with q1'
            injection q1' with _ q1'
            exact hdis i e1 a (by rw [← q1']; exact swK_sub a ha) (hf a z)
          · refine (r3.tmp (Gd, fp) List.mem_cons_self).2 i a ?_ (hf a z)
            unfold Sw at ha
            rw [sw_ow hk] at ha
            exact ha) (fun a ha => pfp a (hf a ha)), ?_⟩
        cases e3 : g E3 with
        | no =>
          rw [e3] at o2
          exact o2
        | exc c =>
          rw [e3] at o2
          exact o2
        | ok fl =>
          rw [e3] at o2
          cases fl with
          | nx E' => exact fun σ' H' F' r' => ⟨E', F', r', o2⟩
          | ct E' => exact fun σ' H' F' r' => ⟨E', F', r', o2⟩
          | bk E' => exact fun σ' H' F' r' => o2 σ' H' F' r'.less
          | rt d' dp => exact fun v H' ⟨fp', h1, h2, h3, h4, h5⟩ => o2 v H' ⟨fp', h1, h2, h3, h4, fun t ht => h5 t (List.mem_cons_of_mem _ ht)⟩
    · rintro σ2 H2 ⟨E2, F2, r2, o2⟩
      rw [List.drop_length] at o2
      exact o2 σ2 H2 F2 r2.less
theorem es_for (po : PassesOwn (model X.prog X.w) X.A X.env X.xe) (C : XOk k X) {T : Tgt} {tg iter : Expr} {body : List Stmt} {pos : Pos} {fi : Sto → Res (List Dat × List Nat)} {g : Sto → Res Fl} (hi : Ei X W tg iter fi) (hg : PG X tg (gT X.K T)) (hb : Ess X W body g)
    (hs : ∀ x, foldedSetIterable iter X.env x = pure x := by intro _; rfl) : Es X W (.For tg iter body [] pos) (sFor T fi g) :=
  ⟨weakS (ps_for po C.calm hi.pi hg hb.pss hs) for_weak⟩
theorem tg_one (C : XOk k X) {i : Nat} {x : Str} {pos : Pos} (hi : X.N[i]? = some x := by rfl) (hx : Loc X.env.scope x := by first | exact Or.inl rfl | exact Or.inr rfl) (hf : X.fn x = true ∨ X.env.scope.names.lookup x = some .local := by first | exact .inl rfl | exact .inr rfl) :
    PG X (.Name x pos) (gT X.K (.one i)) := pg_name C.nd hi hx hf
/-- raise C('..') -/
def sRaise (c : Tx) : Sto → Res Fl := fun _ => .exc c
theorem es_raise (C : XOk k X) (tk : Takes X W) {x m : Str} {c : Tx} {j : Nat} {p p2 pos pos2 : Pos} {A : Addr} {bmB : List Value} {Bn newId initId : String} (F : ExcBaseFacts Bn newId initId bmB) (q : PySem.W.excIn X.K A bmB newId = true) (gC : X.mg x = some (.ref A)) (kC : PySem.W.keepIn X.K (.ref A) = true) (r : Raises X (.ref A))
    (hc : x.cps.toList = c := by rfl) (hg : Gl X x := by rfl) (hdb : (x == ("__debug__" : Str)) = false := by decide) : Es X W (.Raise (some (.Call (.Name x p) [.Constant (.str m) j p2] [] pos)) none pos2) (sRaise c) := by
  refine ⟨weakS (ps_raise C.calm tk (pmk_own F q gC kC r hg hdb)) fun D σ H ⟨B, E, F', rr, o⟩ => ?_⟩
  exact o A σ H (by rw [← hc, mkS_tl]; exact gC) rr.frm

abbrev Con := List Dat → Res (Dat × Bool)
/-- a def's promise over pure data -/
def spC (G : Glo) (n : Nat) (c : Con) : Sp := fun vs H Q E => ∃ ds fp, RepL G H ds vs fp ∧ vs.length = n ∧ match c ds with
  | .ok (d, dp) => ∀ v H' f, Same H H' → Rep G H' d v f → (dp = true → f.Nodup ∧ ∀ a ∈ f, H a = none ∧ Wr H' a) → (∀ a ∈ f, H a = none ∨ a ∈ fp) → Q v H'
  | .exc cl => ∀ C H', G.mg (mkS cl) = some (.ref C) → Same H H' → E (.ref C) none H'
  | .no => False
def startE (N : Nat) (ds : List Dat) : Sto := ds.map (fun d => some (d, Kd.shr)) ++ List.replicate (N - ds.length) none
def runF (N n : Nat) (g : Sto → Res Fl) : Con := fun ds => if ds.length = n then match g (startE N ds) with
    | .ok (.rt d dp) => .ok (d, dp)
    | .ok (.nx _) => .ok (.non, true)
    | .exc c => .exc c
    | _ => .no
  else .no
theorem slot_start {N : Nat} {ds : List Dat} {i : Nat} {d : Dat} {k : Kd} (h : slot (startE N ds) i = some (d, k)) : ds[i]? = some d ∧ k = .shr := by
  have e := slot_some h
  unfold startE at e
  by_cases hi : i < ds.length
  · rw [List.getElem?_append_left (by simpa using hi), List.getElem?_map] at e
    cases e2 : ds[i]? with
    | none =>
      rw [e2] at e
      cases e
    | some x =>
      rw [e2] at e
      simp at e
      exact ⟨by rw [e.1], e.2.symm⟩
  · rw [List.getElem?_append_right (by simpa using hi), List.getElem?_replicate] at e
    split at e <;> cases e
theorem start_at {N : List Str} {vs : List V} {i : Nat} {v : V} (h : vs[i]? = some v) : (L2.start N vs)[i]? = some (some v) := by
  unfold L2.start
  have hi := (List.getElem?_eq_some_iff.mp h).1
  rw [List.getElem?_append_left (by simpa using hi), List.getElem?_map, h]
  rfl
open Classical in
/-- at the entry -/
theorem R.start {G : Glo} {H : Hp} {N : List Str} {ds : List Dat} {vs : List V} {fp : List Addr} (r : RepL G H ds vs fp) : ∃ F, R G ⟨H, [], [], fun a => a ∈ fp, fun _ => none⟩ (startE N.length ds) (L2.start N vs) H F := by
  have key : ∀ (i : Nat) (d : Dat), ds[i]? = some d → ∃ (v : V) (f : List Addr), vs[i]? = some v ∧ Rep G H d v f ∧ ∀ a ∈ f, a ∈ fp := fun i d h => r.at h
  have pickF : ∀ i : Nat, ∃ f : List Addr, (∀ d : Dat, ds[i]? = some d → ∃ v : V, vs[i]? = some v ∧ Rep G H d v f) ∧ (ds[i]? = none → f = []) ∧ ∀ a ∈ f, a ∈ fp := by
    intro i
    cases e : ds[i]? with
    | none => exact ⟨[], (fun d z => nomatch z), fun _ => rfl, (fun _ z => nomatch z)⟩
    | some d =>
      obtain ⟨v, f, h1, h2, h3⟩ := key i d e
      exact ⟨f, fun d' e' => by
        cases e'
        exact ⟨v, h1, h2⟩, (fun z => nomatch z), h3⟩
  have kdn : ∀ i, kd (startE N.length ds) i = .shr := fun i => by
    unfold kd
    cases e : slot (startE N.length ds) i with
    | none => rfl
    | some x => exact (slot_start (d := x.1) (k := x.2) e).2
  have own : ∀ (F : Fp) i, Ow (startE N.length ds) F i = [] := fun F i => by
    unfold Ow
    rw [kdn]
    rfl
  have swn : ∀ (F : Fp) i, Sw (startE N.length ds) F i = [] := fun F i => by
    unfold Sw
    rw [kdn]
    rfl
  refine ⟨fun i => (pickF i).choose, ⟨?_, fun i d k e => ?_, fun i e => ?_⟩, fun i a ha => ?_, fun i e => ?_, fun i e => ?_, fun i j n a ha => ?_, (fun _ z => nomatch z), (fun _ z => nomatch z), fun i a ha => .inr ((pickF i).choose_spec.2.2 a ha), fun b o h => .inl h, fun i e => ?_⟩
  · unfold startE L2.start
    simp [r.len]
  · obtain ⟨h1, _⟩ := slot_start e
    obtain ⟨v, q1, q2⟩ := (pickF i).choose_spec.1 d h1
    exact ⟨v, start_at q1, q2⟩
  · refine (pickF i).choose_spec.2.1 ?_
    cases e2 : ds[i]? with
    | none => rfl
    | some d =>
      exfalso
      have : slot (startE N.length ds) i = some (d, .shr) := by
        unfold slot startE
        have hi := (List.getElem?_eq_some_iff.mp e2).1
        rw [List.getElem?_append_left (by simpa using hi), List.getElem?_map, e2]
        rfl
      rw [this] at e
      cases e
  · rw [own] at ha
    cases ha
  · rw [kdn] at e
    cases e
  · rw [kdn] at e
    cases e
  · rw [swn] at ha
    cases ha
  · rw [kdn] at e
    cases e
section
variable {P : Program} {w : World} {K : PySem.W.Frag} {mg : Str → Option Value} {base : Heap}
/-- THE RULE for a def over pure data -/
theorem fn_pv {x qual : Str} {st : Stmt} {f : Addr} {fd : FuncData} {N ps : List Str} {k n : Nat} {g : Sto → Res Fl} {c : Con} (F : Fun K x qual st f fd) (S : FnScope N ps (defScope st)) (hn : ps.length = n)
    (hb : ∀ (cdv : Value) (A : Around) (outer : List Env) (s : Shared) (H : Hp) (E : XK), XOk k (cxOf (L2.CX P w) P w K mg base N qual (defScope st) f cdv A outer s H E) →
      Takes (cxOf (L2.CX P w) P w K mg base N qual (defScope st) f cdv A outer s H E) (fun cls d _ H => E cls d H) →
      PassesOwn (model P w) (cxOf (L2.CX P w) P w K mg base N qual (defScope st) f cdv A outer s H E).A (cxOf (L2.CX P w) P w K mg base N qual (defScope st) f cdv A outer s H E).env (cxOf (L2.CX P w) P w K mg base N qual (defScope st) f cdv A outer s H E).xe →
      Ess (cxOf (L2.CX P w) P w K mg base N qual (defScope st) f cdv A outer s H E) (fun cls d _ H => E cls d H) (defBody st) g)
    (hc : ∀ ds, c ds ≠ .no → runF N.length n g ds = c ds := by exact fun _ _ => rfl) : FnOk P w K mg base (L2.CX P w) (k + 1) f fd ps (spC ⟨K, mg⟩ n c) := by
  refine F.okX S (fun vs H Q E ⟨ds, fp, r, l, _⟩ => l.trans hn.symm) fun cdv A outer s H vs Q E hr ⟨ds, fp, r, l, h⟩ => ?_
  have C : XOk k (cxOf (L2.CX P w) P w K mg base N qual (defScope st) f cdv A outer s H E) := ⟨rfl, S.nd, hr⟩
  refine ⟨_, (hb cdv A outer s H E C (takes_of rfl rfl rfl rfl) (passes_of rfl)).pss, ?_⟩
  obtain ⟨F0, r0⟩ := R.start (N := N) r
  refine ⟨_, _, F0, r0, ?_⟩
  have hcd : runF N.length n g ds = c ds := hc ds fun e => by
    rw [e] at h
    exact h
  rw [← hcd] at h
  have ld : ds.length = n := by rw [← r.len]; exact l
  unfold runF at h
  rw [if_pos ld] at h
  cases e : g (startE N.length ds) with
  | no =>
    simp only [e] at h
  | exc cl =>
    simp only [e] at h
    exact fun C' σ' H' m fr => h C' H' m fun b o q => (fr b o q).elim id fun ⟨z, _⟩ => nomatch z
  | ok fl =>
    cases fl with
    | nx E' =>
      simp only [e] at h
      exact fun σ' H' F' r' => h .non H' [] (fun b o q => (r'.frm b o q).elim id fun ⟨z, _⟩ => nomatch z) mk_non (fun _ => ⟨.nil, (fun _ z => nomatch z)⟩) (fun _ z => nomatch z)
    | rt d dp =>
      simp only [e] at h
      intro v H' ⟨f', q1, q2, q3, q4, _⟩
      exact h v H' f' (fun b o q => (q4 b o q).elim id fun ⟨z, _⟩ => nomatch z) q1 (fun z => ⟨(q2 z).1, fun a ha => ⟨((q2 z).2 a ha).2, ((q2 z).2 a ha).1⟩⟩) q3
    | bk E' => simp only [e] at h
    | ct E' => simp only [e] at h
end
def fCall (n : Nat) (c : Con) (a : Sto → Res (List Rs)) : Sto → Res Rs := fun E => (a E).bind fun rs => if rs.length ≠ n then .no else match c (rs.map (·.d)) with
  | .ok (d, dp) => .ok (if flat d then rsF d else if dp then ⟨d, false, [], some []⟩ else ⟨d, false, allSrc rs, none⟩)
  | .exc cl => .exc cl
  | .no => .no
theorem call_gv {G : Glo} {H H1 H2 : Hp} {F : Fp} {rs : List Rs} {vs : List V} {fp f : List Addr} {d : Dat} {dp : Bool} {v : V} (s1 : Same H H1) (g : GvL G H F rs vs H1 fp) (r : Rep G H2 d v f) (h1 : dp = true → f.Nodup ∧ ∀ a ∈ f, H1 a = none ∧ Wr H2 a) (h2 : ∀ a ∈ f, H1 a = none ∨ a ∈ fp) :
    Gv G H F (if flat d then rsF d else if dp then ⟨d, false, [], some []⟩ else ⟨d, false, allSrc rs, none⟩) v H2 f := by
  by_cases hf : flat d = true
  · rw [if_pos hf]
    have := Rep.flat _ _ _ r hf
    subst this
    exact Gv.flat r
  · rw [if_neg hf]
    by_cases hd : dp = true
    · rw [if_pos hd]
      obtain ⟨n, w⟩ := h1 hd
      refine ⟨r, fun a ha => .inl (s1.free (w a ha).1), (fun z => nomatch z), fun m em => ?_⟩
      injection em with em
      subst em
      exact ⟨f, by simp, n, fun a ha => ⟨s1.free (w a ha).1, (w a ha).2⟩⟩
    · rw [if_neg hd]
      refine ⟨r, fun a ha => ?_, (fun z => nomatch z), (fun m z => nomatch z)⟩
      rcases h2 a ha with q | q
      · exact .inl (s1.free q)
      · rcases g.src a q with w | ⟨r', hr', i, hi, w⟩
        · exact .inl w
        · exact .inr ⟨i, List.mem_flatMap.mpr ⟨r', hr', hi⟩, w⟩
/-- what a caller knows of a def -/
structure Def (X : Cx) (k : Nat) (x : Str) (n : Nat) (c : Con) : Prop where
  ex : ∃ (f : Addr) (fd : FuncData) (ps : List Str) (j : Nat), FnOk X.prog X.w X.K X.mg X.base (L2.CX X.prog X.w) j f fd ps (spC (glo X) n c) ∧ j ≤ k ∧ X.mg x = some (.ref f) ∧ PySem.W.keepIn X.K (.ref f) = true ∧ Binds X.K fd ps []
theorem ev_call (C : XOk k X) (tk : Takes X W) {x : Str} {n : Nat} {c : Con} {p pos : Pos} {e : Expr} {es : List Expr} {a : Sto → Res (List Rs)} (D : Def X k x n c) (ha : Ea X W (e :: es) a) (hg : Gl X x := by rfl) (hdb : (x == ("__debug__" : Str)) = false := by decide)
    (he : starEach (e :: es) X.env = (false, eval e X.env) :: starEach es X.env := by rfl) (hpl : (backTo pos (starEach es X.env)).any (·.1) = false := by rfl) : Ev X W (.Call (.Name x p) (e :: es) [] pos) (fCall n c a) := by
  obtain ⟨f, fd, ps, j, F, hj, hm, kp, b⟩ := D.ex
  refine ⟨weakE (pe_callS F (C.hr.mono hj) hg hm kp b (fun σ => passAt tk σ) ha.pa hdb he hpl) fun σ H Q ⟨E, F', re, o⟩ => ?_⟩
  refine seqA re o fun rs vs H1 fp e1 s1 g o1 => ?_
  have hl : rs.length = n := Classical.byContradiction fun hl => by
    rw [if_pos hl] at o1
    exact o1.elim
  rw [if_neg (fun z => z hl)] at o1
  refine ⟨rs.map (·.d), fp, g.reps, by rw [g.len]; exact hl, ?_⟩
  cases ec : c (rs.map (·.d)) with
  | no =>
    simp only [ec] at o1
    exact o1
  | exc cl =>
    simp only [ec] at o1
    exact o1
  | ok y =>
    obtain ⟨d, dp⟩ := y
    simp only [ec] at o1
    exact fun v H' f' s2 r h1 h2 => o1 v H' f' s2 (call_gv s1 g r h1 h2)
end
end PV

namespace PV
open PySem PySem.Spec L2
section
variable {X : Cx} {W : WX} {k : Nat}
/-- an own class whose instances may be asked for their class -/
structure ClsI (X : Cx) (c : Tx) (C : Addr) : Prop where
  mg : X.mg (mkS c) = some (.ref C)
  cl : Cls X.K C
  ha : PySem.W.findIn X.K (.ref C) "__class__" = some (some (.builtin "object.__class__"))
  hn : PySem.W.specialIn X.K (.builtin "object.__class__") "__get__" = some (some (.builtin "getset_descriptor.__get__"))
  htk : PySem.W.takesIn X.K (.builtin "object.__class__") = some true
  hm : PySem.W.mroIn X.K C (.type "object") = some true
def tyS : Dat → Option String
  | .non => some "NoneType"
  | .bl _ => some "bool"
  | .int _ => some "int"
  | .str _ => some "str"
  | .tup _ => some "tuple"
  | .lst _ => some "list"
  | .rol _ => some "list"
  | .dic _ _ => some "dict"
  | _ => none
def gIsi (at_ : String → Option Bool) (own : Tx → Option Bool) (r : Rs) : Res Rs := match r.d with
  | .ins c _ _ => match own c with
    | some b => .ok (rsF (.bl b))
    | none => .no
  | d => match (tyS d).bind at_ with
    | some b => .ok (rsF (.bl b))
    | none => .no
theorem ty_of {G : Glo} {H : Hp} {d : Dat} {v : V} {fp : List Addr} {t : String} (r : Rep G H d v fp) (h : tyS d = some t) : TyX G.K H v (.type t) := by
  cases d <;> simp only [tyS, Option.some.injEq] at h <;> first | cases h | subst h
  · rw [rep_non r]
    exact .base .non
  · rw [rep_bl r]
    exact .base (.bl _)
  · rw [rep_int r]
    exact .base (.int _)
  · rw [rep_str r]
    exact .base (.str _)
  · simp only [Rep] at r
    obtain ⟨a, vs, rfl, q, _⟩ := r
    rcases q with (q | ⟨o, q⟩) | ⟨o, its, n, q, c, _⟩
    · exact .base (.tup q)
    · exact .fTuple q
    · exact .kTuple q c
  · simp only [Rep] at r
    obtain ⟨a, vs, f, rfl, q, _⟩ := r
    exact .base (.lst q)
  · simp only [Rep] at r
    obtain ⟨a, vs, rfl, q, _⟩ := r
    rcases q with ⟨o, q⟩ | ⟨o, its, n, q, c, _⟩
    · exact .base (.frz q)
    · exact .kList q c
  · simp only [Rep] at r
    obtain ⟨a, vs, f, rfl, q, _⟩ := r
    rcases q with q | ⟨o, q⟩
    · exact .base (.dK q)
    · exact .fDict q
theorem ev_isi {e e2 : Expr} {p pos : Pos} {f : Sto → Res Rs} {c : V} {u : Value} {at_ : String → Option Bool} {own : Tx → Option Bool} (hm : X.mg "isinstance" = none) (he : Ev X W e f) (h2 : PE X e2 (tC c)) (hc : ClsV c u)
    (ht : ∀ t b, at_ t = some b → PySem.W.kitOne X.K (.type t) u = some b) (ho : ∀ t b, own t = some b → ∃ C, ClsI X t C ∧ PySem.W.kitOne X.K (.ref C) u = some b) (hgl : Gl X "isinstance" := by rfl)
    (hs : starEach [e, e2] X.env = (false, eval e X.env) :: starEach [e2] X.env := by rfl) (hs2 : starEach [e2] X.env = (false, eval e2 X.env) :: starEach [] X.env := by rfl) (hpl : (backTo pos (starEach [e2] X.env)).any (·.1) = false := by rfl) : Ev X W (.Call (.Name "isinstance" p) [e, e2] [] pos) (fOne (gIsi at_ own) f) := by
  refine ⟨weakE (pe_callB call_isi hgl hm (by decide +kernel) (pa_cons he.pe (pa_cons h2 pa_nil hs2) hs) (by decide) (by decide) hs hpl) fun σ H Q ⟨E, F, re, o⟩ => ?_⟩
  refine seqE re (Same.refl H) o fun r x H1 fp e1 s1 g o1 => ?_
  have p := g.rep
  unfold gIsi at o1
  by_cases hi : ∃ c' ks vs, r.d = .ins c' ks vs
  · obtain ⟨c', ks, vs, ed⟩ := hi
    simp only [ed] at o1
    rw [ed] at p
    cases eo : own c' with
    | none =>
      simp only [eo] at o1
      exact o1.elim
    | some b =>
      simp only [eo] at o1
      obtain ⟨C, ci, hk⟩ := ho c' b eo
      simp only [Rep] at p
      obtain ⟨a, C', dx, vs', f', rfl, q1, q2, _⟩ := p
      have eC : C' = C := by
        have := q1.symm.trans ci.mg
        injection this with this
        injection this
      subst eC
      exact ⟨.ref a, c, .ref C', u, b, rfl, hc, .base (.ins q2 ci.cl ci.ha ci.hn ci.htk ci.hm), hk, o1.flat mk_bl⟩
  · have key : ∀ t, tyS r.d = some t → ∀ b, at_ t = some b → Out X W H H1 F σ (.ok (rsF (.bl b))) Q → rIsi X.K [x, c] H1 Q := fun t e4 b e5 o5 => ⟨x, c, .type t, u, b, rfl, hc, ty_of p e4, ht t b e5, o5.flat mk_bl⟩
    have o2 : Out X W H H1 F σ (match (tyS r.d).bind at_ with
      | some b => .ok (rsF (.bl b))
      | none => .no) Q := by
      cases ed : r.d <;> simp only [ed] at o1 ⊢ <;> first | exact o1 | exact absurd ⟨_, _, _, ed⟩ hi
    cases e4 : tyS r.d with
    | none =>
      rw [e4] at o2
      exact o2.elim
    | some t =>
      rw [e4] at o2
      simp only [Option.bind] at o2
      cases e5 : at_ t with
      | none =>
        simp only [e5] at o2
        exact o2.elim
      | some b =>
        simp only [e5] at o2
        exact key t e4 b e5 o2
def isB (T : String) (t : String) : Option Bool := if t = T then some true else if t = "bool" ∧ T = "int" then some true else some false
def tyN : List String := ["NoneType", "bool", "int", "str", "tuple", "list", "dict"]
def isT (T : String) (t : String) : Option Bool := if t ∈ tyN then isB T t else none
theorem kit_T {K : PySem.W.Frag} {T : String} (h : tyN.all (fun t => kitB t T == isB T t) = true) : ∀ t b, isT T t = some b → PySem.W.kitOne K (.type t) (.type T) = some b := by
  intro t b e
  unfold isT at e
  by_cases ht : t ∈ tyN
  · rw [if_pos ht] at e
    have := List.all_eq_true.mp h t ht
    exact kit_ty ((eq_of_beq this).trans e)
  · rw [if_neg ht] at e
    cases e
def noOwn : Tx → Option Bool := fun _ => none
theorem ev_isiB {e : Expr} {T : String} {x : Str} {p p2 pos : Pos} {f : Sto → Res Rs} (hm : X.mg "isinstance" = none) (he : Ev X W e f) (hx : X.mg x = none) (hv : bootBuiltins x = some (.type T)) (hT : tyN.all (fun t => kitB t T == isB T t) = true) (hn : x ≠ "__name__" := by decide) (hd : (x == ("__debug__" : Str)) = false := by decide) (hgl : Gl X "isinstance" := by rfl) (hgx : Gl X x := by rfl)
    (hs : starEach [e, .Name x p2] X.env = (false, eval e X.env) :: starEach [.Name x p2] X.env := by rfl) : Ev X W (.Call (.Name "isinstance" p) [e, .Name x p2] [] pos) (fOne (gIsi (isT T) noOwn) f) :=
  ev_isi hm he (pe_bltn hgx hx hv (v := .ty T) rfl hn hd) (.ty T) (kit_T hT) (fun _ _ z => nomatch z) hgl hs rfl rfl

def fChain (g g' : Rs → Rs → Res Rs) (fa fb fc : Sto → Res Rs) : Sto → Res Rs := fun E => (fa E).bind fun ra => (fb E).bind fun rb => (g ra rb).bind fun r => match r.d with
  | .bl true => (fc E).bind fun rc => g' rb rc
  | .bl false => .ok (rsF (.bl false))
  | _ => .no
theorem ev_chain {a b c : Expr} {op op' : CmpOp} {pos : Pos} {r r' : R2} {g g' : Rs → Rs → Res Rs} {fa fb fc : Sto → Res Rs} (ho : OpR X (compareOp op) r) (hg : OpS X r g) (ho' : OpR X (compareOp op') r') (hg' : OpS X r' g') (ha : Ev X W a fa) (hb : Ev X W b fb) (hc : Ev X W c fc)
    (hm : lastMarks [op, op'] [b, c] = false := by with_unfolding_all rfl) : Ev X W (.Compare a [op, op'] [b, c] pos) (fChain g g' fa fb fc) := by
  refine ⟨weakE (pe_chain ho ho' ha.pe hb.pe hc.pe hm) fun σ H Q ⟨E, F, re, o⟩ => ?_⟩
  refine seqE re (Same.refl H) o fun ra x H1 f1 e1 s1 g1 o1 => ?_
  refine seqE (re.same s1) s1 o1 fun rb y H2 f2 e2 s2 g2 o2 => ?_
  refine hg W H H2 F σ ra rb x y f1 f2 _ (s1.trans s2) (fun i => re.trk i) (g1.same s2) g2 ?_
  cases e3 : g ra rb with
  | no =>
    rw [e3] at o2
    exact o2
  | exc cl =>
    rw [e3] at o2
    exact o2
  | ok r =>
    rw [e3] at o2
    intro v H3 fp s3 g3
    have p := g3.rep
    have o3 := o2.mono s3
    simp only [bind_ok] at o3
    cases ed : r.d <;> simp only [ed] at o3 <;> first | exact o3.elim | skip
    rename_i bb
    rw [ed] at p
    refine ⟨bb, rep_bl p, ?_⟩
    cases bb with
    | false =>
      rw [if_neg Bool.false_ne_true]
      exact o3.flat mk_bl
    | true =>
      rw [if_pos rfl]
      refine seqE (re.same (s1.trans (s2.trans s3))) (s1.trans (s2.trans s3)) o3 fun rc z H4 f4 e4 s4 g4 o4 => ?_
      exact hg' W H H4 F σ rb rc y z f2 f4 Q (s1.trans (s2.trans (s3.trans s4))) (fun i => re.trk i) (g2.same (s3.trans s4)) g4 o4
theorem op_leS : OpS X (rI0 fun i j => V.bl (decide (i ≤ j))) gLe := ops_I0 fun _ _ _ _ => mk_bl
theorem ev_leLe {a b c : Expr} {pos : Pos} {fa fb fc : Sto → Res Rs} (ha : Ev X W a fa) (hb : Ev X W b fb) (hc : Ev X W c fc) (hm : lastMarks [.LtE, .LtE] [b, c] = false := by with_unfolding_all rfl) : Ev X W (.Compare a [.LtE, .LtE] [b, c] pos) (fChain gLe gLe fa fb fc) := ev_chain op_le op_leS op_le op_leS ha hb hc hm
theorem ev_gStr {x : Str} {s : Str} {y : Tx} {t} {pos : Pos} (hm : X.mg x = some (.str s t)) (hy : s.cps.toList = y := by rfl) (hg : Gl X x := by rfl) (hd : (x == ("__debug__" : Str)) = false := by decide) : Ev X W (.Name x pos) (fC (.str y)) :=
  ev_glob (v := .str s) hg hm ⟨t, rfl⟩ (by
    simp only [Rep, ← hy, mkS_tl]
    exact ⟨trivial, trivial⟩) hd
theorem ev_gInt {x : Str} {i : Int} {t} {pos : Pos} (hm : X.mg x = some (.int i t)) (hg : Gl X x := by rfl) (hd : (x == ("__debug__" : Str)) = false := by decide) : Ev X W (.Name x pos) (fC (.int i)) :=
  ev_glob (v := .int i) hg hm ⟨t, rfl⟩ mk_int hd
end
/-- the def x of the module keeps c, at level k and above -/
def DefP (P : Program) (w : World) (K : PySem.W.Frag) (mg : Str → Option Value) (base : Heap) (k : Nat) (x : Str) (n : Nat) (c : Con) : Prop :=
  ∃ (f : Addr) (fd : FuncData) (ps : List Str) (j : Nat), FnOk P w K mg base (L2.CX P w) j f fd ps (spC ⟨K, mg⟩ n c) ∧ j ≤ k ∧ mg x = some (.ref f) ∧ PySem.W.keepIn K (.ref f) = true ∧ Binds K fd ps []
theorem DefP.at {X : Cx} {k j : Nat} {x : Str} {n : Nat} {c : Con} (d : DefP X.prog X.w X.K X.mg X.base j x n c) (h : j ≤ k := by decide) : Def X k x n c := by
  obtain ⟨f, fd, ps, i, F, hi, r⟩ := d
  exact ⟨f, fd, ps, i, F, Nat.le_trans hi h, r⟩
section
variable {P : Program} {w : World} {K : PySem.W.Frag} {mg : Str → Option Value} {base : Heap}
theorem DefP.mk {k n : Nat} {x : Str} {st : Stmt} {f : Addr} {fd : FuncData} {ps : List Str} {qual : Str} {c : Con} (F : Fun K x qual st f fd) (o : FnOk P w K mg base (L2.CX P w) k f fd ps (spC ⟨K, mg⟩ n c)) (g : mg x = some (.ref f)) (b : Binds K fd ps []) : DefP P w K mg base k x n c :=
  ⟨f, fd, ps, k, o, Nat.le_refl k, g, F.kp, b⟩
/-- another word for the same -/
theorem DefP.to {k n : Nat} {x : Str} {c c' : Con} (d : DefP P w K mg base k x n c) (h : ∀ ds y, c' ds = y → y ≠ .no → c ds = y) : DefP P w K mg base k x n c' := by
  obtain ⟨f, fd, ps, i, F, r⟩ := d
  refine ⟨f, fd, ps, i, ?_, r⟩
  refine F.imp fun vs H Q E ⟨ds, fp, r, l, q⟩ => ⟨ds, fp, r, l, ?_⟩
  by_cases z : c' ds = .no
  · rw [z] at q
    exact q.elim
  · rw [h ds _ rfl z]
    exact q
end
end PV

namespace PV
open PySem PySem.Spec L2
section
variable {X : Cx} {W : WX} {k : Nat}
theorem tofT {f : Sto → Res Rs} {σ : L2.St} {H : Hp} {Q : Bool → Hp → Prop} (h : tEt X W (tOf f) σ H Q) : tTest (tEv X W f) σ H Q := by
  obtain ⟨E, F, re, o⟩ := h
  refine seqET re o fun r v H1 fp e s1 g o1 => ?_
  have gr := g.rep
  unfold toB at o1
  cases ed : r.d with
  | bl b =>
    simp only [ed] at o1
    rw [ed] at gr
    simp only [Rep] at gr
    exact ⟨b, gr.1, o1 H1 (Same.refl H1)⟩
  | _ =>
    simp only [ed] at o1
    exact o1.elim
theorem bin_op {a b : Expr} {r : R2} {g : Rs → Rs → Res Rs} {fa fb : Sto → Res Rs} (hg : OpS X r g) {σ : L2.St} {H : Hp} {Q : VK} (h : tEv X W (fBin g fa fb) σ H Q) : tOp r (tEv X W fa) (tEv X W fb) σ H Q := by
  obtain ⟨E, F, re, o⟩ := h
  refine seqE re (Same.refl H) o fun ra x H1 f1 e1 s1 g1 o1 => ?_
  refine seqE (re.same s1) s1 o1 fun rb y H2 f2 e2 s2 g2 o2 => ?_
  exact hg W H H2 F σ ra rb x y f1 f2 Q (s1.trans s2) (fun i => re.trk i) (g1.same s2) g2 o2
theorem et_cmp {a b : Expr} {op : CmpOp} {pos : Pos} {r : R2} {g : Rs → Rs → Res Rs} {fa fb : Sto → Res Rs} (ho : OpR X (compareOp op) r) (hg : OpS X r g) (ha : Ev X W a fa) (hb : Ev X W b fb) (hm : behindInMarks op b = false) : Et X W (.Compare a [op] [b] pos) (tOf (fBin g fa fb)) :=
  ⟨weakT (pt_cmpR ho ha.pe hb.pe hm) fun σ H Q h => bin_op (a := a) (b := b) hg (tofT h)⟩
section
variable {a b : Expr} {pos : Pos} {fa fb : Sto → Res Rs} (ha : Ev X W a fa) (hb : Ev X W b fb)
include ha hb
theorem et_lt : Et X W (.Compare a [.Lt] [b] pos) (tOf (fBin gLt fa fb)) := et_cmp op_lt (ops_I0 fun _ _ _ _ => mk_bl) ha hb (nomark _)
theorem et_gt : Et X W (.Compare a [.Gt] [b] pos) (tOf (fBin gGt fa fb)) := et_cmp op_gt (ops_I0 fun _ _ _ _ => mk_bl) ha hb (nomark _)
theorem et_eq (C : XOk k X) : Et X W (.Compare a [.Eq] [b] pos) (tOf (fBin gEq fa fb)) := et_cmp (op_eqP C) ops_eq ha hb (nomark _)
theorem et_ne (C : XOk k X) : Et X W (.Compare a [.NotEq] [b] pos) (tOf (fBin gNe fa fb)) := et_cmp (op_neP C) ops_ne ha hb (nomark _)
theorem et_in (C : XOk k X) (hm : behindInMarks .In b = false := by rfl) : Et X W (.Compare a [.In] [b] pos) (tOf (fBin (gIn false) fa fb)) := et_cmp (op_inA C) ops_in ha hb hm
theorem et_notIn (C : XOk k X) (hm : behindInMarks .NotIn b = false := by rfl) : Et X W (.Compare a [.NotIn] [b] pos) (tOf (fBin (gIn true) fa fb)) := et_cmp (op_notInA C) ops_in ha hb hm
theorem et_is : Et X W (.Compare a [.Is] [b] pos) (tOf (fBin (gIs false) fa fb)) := et_cmp op_isA ops_is ha hb (nomark _)
end
theorem pts_of {X' : Cx} {e : Expr} {f : Sto → Res Bool} (h : Et X' Wn e f) : PTs X' [e] (tEt X' Wn f) := pts_one h.pt
theorem XOk.blk (C : XOk k X) {s : Shared} {H : Hp} {sc : Scope} {en : Env} {fp : List Addr} : XOk k (X.blk s H sc en fp) := ⟨C.calm, C.nd, C.hr⟩
end
end PV

namespace PV
open PySem PySem.Spec L2
section
variable {X : Cx} {W : WX} {k : Nat}
theorem ev_kStr {x : Str} {s : Str} {y : Tx} {pos : Pos} (hm : ∃ t, X.mg x = some (.str s t)) (hy : s.cps.toList = y := by rfl) (hg : Gl X x := by rfl) (hd : (x == ("__debug__" : Str)) = false := by decide) : Ev X W (.Name x pos) (fC (.str y)) := by
  obtain ⟨t, h⟩ := hm
  exact ev_gStr h hy hg hd
theorem ev_kInt {x : Str} {i : Int} {pos : Pos} (hm : ∃ t, X.mg x = some (.int i t)) (hg : Gl X x := by rfl) (hd : (x == ("__debug__" : Str)) = false := by decide) : Ev X W (.Name x pos) (fC (.int i)) := by
  obtain ⟨t, h⟩ := hm
  exact ev_gInt h hg hd
def bmV : List Value := [.type "ValueError", .type "Exception", .type "BaseException", .type "object"]
structure ExcK (K : PySem.W.Frag) (mg : Str → Option Value) (x : Str) : Prop where
  ex : ∃ C, mg x = some (.ref C) ∧ PySem.W.excIn K C bmV "ValueError.__new__" = true ∧ PySem.W.keepIn K (.ref C) = true ∧ PySem.W.subIn K (.ref C) (.type "BaseException") = some true ∧ PySem.W.typeIn K (.ref C) = some (.type "type")
theorem es_raiseK (C : XOk k X) (tk : Takes X W) {x m : Str} {c : Tx} {j : Nat} {p p2 pos pos2 : Pos} (e : ExcK X.K X.mg x) (hc : x.cps.toList = c := by rfl) (hg : Gl X x := by rfl) (hdb : (x == ("__debug__" : Str)) = false := by decide) : Es X W (.Raise (some (.Call (.Name x p) [.Constant (.str m) j p2] [] pos)) none pos2) (sRaise c) := by
  obtain ⟨A, h1, h2, h3, h4, h5⟩ := e.ex
  exact es_raise C tk PySem.F.excBase_ValueError h2 h1 h3 (raises_own h4 h5) hc hg hdb
end
theorem boot_str : bootBuiltins "str" = some (.type "str") := by decide +kernel
theorem boot_list : bootBuiltins "list" = some (.type "list") := by decide +kernel
theorem boot_tuple : bootBuiltins "tuple" = some (.type "tuple") := by decide +kernel
theorem ty_str : tyN.all (fun t => kitB t "str" == isB "str" t) = true := by decide +kernel
theorem ty_list : tyN.all (fun t => kitB t "list" == isB "list" t) = true := by decide +kernel
theorem ty_tuple : tyN.all (fun t => kitB t "tuple" == isB "tuple" t) = true := by decide +kernel
/-- the law's own promise: any script of its kind, and True -/
def spLaw (K : PySem.W.Frag) : Sp := fun vs H Q _ => ∃ (a : Addr) (ns : List Int), vs = [.ref a] ∧ Only H ∧ SqL K H a (ns.map V.int) ∧ ns.length ≤ 63 ∧ (∀ z ∈ ns, Builtin.Int.intBits z ≤ 1048576) ∧ ∀ H', Q (.bl true) H'
/-- what is to be shown of the law's function -/
def LawTrue (c : Con) : Prop := ∀ ns : List Int, ns.length ≤ 63 → (∀ z ∈ ns, Builtin.Int.intBits z ≤ 1048576) → ∃ dp, c [.rol (ns.map .int)] = .ok (.bl true, dp)
theorem law_end {P : Program} {w : World} {K : PySem.W.Frag} {mg : Str → Option Value} {base : Heap} {k : Nat} {f : Addr} {fd : FuncData} {p : Str} {c : Con} (F : FnOk P w K mg base (L2.CX P w) k f fd [p] (spC ⟨K, mg⟩ 1 c)) (L : LawTrue c) : FnOk P w K mg base (L2.CX P w) k f fd [p] (spLaw K) := by
  refine F.imp fun vs H Q E ⟨a, ns, e, hO, hS, hl, hb, q⟩ => ?_
  obtain ⟨dp, hc⟩ := L ns hl hb
  subst e
  refine ⟨[.rol (ns.map .int)], [], ?_, rfl, ?_⟩
  · refine RepL.one ?_
    simp only [Rep]
    refine ⟨a, _, rfl, ?_, ints_reps ns⟩
    rcases hS with (h | h) | h
    · rcases hO a with z | ⟨o, xs, z⟩
      · rw [z] at h
        cases h
      · rw [z] at h
        cases h
    · exact .inl h
    · exact .inr h
  · rw [hc]
    exact fun v H' f' _ r _ _ => by
      rw [rep_bl r]
      exact q H'
theorem law_start {K : PySem.W.Frag} {H : Hp} {a : Addr} {ns : List Int} (hl : ns.length ≤ 63) (hb : ∀ z ∈ ns, Builtin.Int.intBits z ≤ 1048576) (hO : Only H) (hS : SqL K H a (ns.map V.int)) : spLaw K [.ref a] H (fun v _ => v = .bl true) fun _ _ _ => False :=
  ⟨a, ns, rfl, hO, hS, hl, hb, fun _ => rfl⟩
theorem no_exc {P : Program} {w : World} {outer : List Env} {H : Hp} {s : Shared} {e : Value} {s' : Shared} (h : L2.CX P w outer H s (fun _ _ _ => False) e s') : False := by
  obtain ⟨_, _, _, _, _, _, _, _, _, _, _, _, z⟩ := h
  exact z
end PV

namespace PV
open PySem PySem.Spec L2
def fin (r : Res Fl) : Res (Dat × Bool) := match r with
  | .ok (.rt d dp) => .ok (d, dp)
  | .ok (.nx _) => .ok (.non, true)
  | .exc c => .exc c
  | _ => .no
theorem e_bok {α β : Type} (a : α) (f : α → Res β) : (Res.ok a).bind f = f a := (rfl)
theorem e_bexc {α β : Type} (c : Tx) (f : α → Res β) : (Res.exc c : Res α).bind f = .exc c := (rfl)
theorem fin_rt {d : Dat} {dp : Bool} : fin (.ok (.rt d dp)) = .ok (d, dp) := (rfl)
theorem fin_nx {E : Sto} : fin (.ok (.nx E)) = .ok (.non, true) := (rfl)
theorem fin_exc {c : Tx} : fin (.exc c) = .exc c := (rfl)
theorem run1 {N : Nat} {g : Sto → Res Fl} {a : Dat} : runF N 1 g [a] = fin (g (some (a, .shr) :: List.replicate (N - 1) none)) := (rfl)
theorem run2 {N : Nat} {g : Sto → Res Fl} {a b : Dat} : runF N 2 g [a, b] = fin (g (some (a, .shr) :: some (b, .shr) :: List.replicate (N - 2) none)) := (rfl)
theorem run3 {N : Nat} {g : Sto → Res Fl} {a b c : Dat} : runF N 3 g [a, b, c] = fin (g (some (a, .shr) :: some (b, .shr) :: some (c, .shr) :: List.replicate (N - 3) none)) := (rfl)
theorem run4 {N : Nat} {g : Sto → Res Fl} {a b c d : Dat} : runF N 4 g [a, b, c, d] = fin (g (some (a, .shr) :: some (b, .shr) :: some (c, .shr) :: some (d, .shr) :: List.replicate (N - 4) none)) := (rfl)
def sSeq1 (h : Sto → Res Fl) (fl : Fl) : Res Fl := match fl with
  | .nx E' => h E'
  | fl => .ok fl
theorem e_seq {g h : Sto → Res Fl} {E : Sto} : sSeq g h E = (g E).bind (sSeq1 h) := (rfl)
theorem e_seq_nx {h : Sto → Res Fl} {E : Sto} : sSeq1 h (.nx E) = h E := (rfl)
theorem e_seq_rt {h : Sto → Res Fl} {d : Dat} {b : Bool} : sSeq1 h (.rt d b) = .ok (.rt d b) := (rfl)
theorem e_seq_bk {h : Sto → Res Fl} {E : Sto} : sSeq1 h (.bk E) = .ok (.bk E) := (rfl)
theorem e_seq_ct {h : Sto → Res Fl} {E : Sto} : sSeq1 h (.ct E) = .ok (.ct E) := (rfl)
theorem e_nil {E : Sto} : sNil E = .ok (.nx E) := (rfl)
theorem e_pass {E : Sto} : sPass E = .ok (.nx E) := (rfl)
theorem e_brk {E : Sto} : sBrk E = .ok (.bk E) := (rfl)
theorem e_cnt {E : Sto} : sCnt E = .ok (.ct E) := (rfl)
theorem e_retN {E : Sto} : sRetN E = .ok (.rt .non true) := (rfl)
theorem e_raise {c : Tx} {E : Sto} : sRaise c E = .exc c := (rfl)
def sDrop1 (E : Sto) (_ : Rs) : Res Fl := .ok (.nx E)
theorem e_drop {f : Sto → Res Rs} {E : Sto} : sDrop f E = (f E).bind (sDrop1 E) := (rfl)
theorem e_drop1 {E : Sto} {r : Rs} : sDrop1 E r = .ok (.nx E) := (rfl)
def sRet1 (E : Sto) (r : Rs) : Res Fl := .ok (.rt r.d (decide ((PV.take false r E).2 = .deep)))
theorem e_ret {f : Sto → Res Rs} {E : Sto} : sRet f E = (f E).bind (sRet1 E) := (rfl)
theorem take_flat {k : Bool} {d : Dat} {rt : Bool} {src : List Nat} {E : Sto} : PV.take k ⟨d, rt, src, some []⟩ E = (E, .deep) := by
  simp [PV.take, wipeE]
theorem take_one {d : Dat} {dd : Dat} {rt : Bool} {src : List Nat} {i : Nat} {E : Sto} (h : slot E i = some (dd, .deep)) : PV.take false ⟨d, rt, src, some [i]⟩ E = (E.set i none, .deep) := by
  simp [PV.take, wipeE, kd, h]
theorem e_ret_deep {d : Dat} {rt : Bool} {src : List Nat} {E : Sto} : sRet1 E ⟨d, rt, src, some []⟩ = .ok (.rt d true) := by
  simp [sRet1, take_flat]
theorem e_ret_one {d dd : Dat} {rt : Bool} {src : List Nat} {i : Nat} {E : Sto} (h : slot E i = some (dd, .deep)) : sRet1 E ⟨d, rt, src, some [i]⟩ = .ok (.rt d true) := by
  simp [sRet1, take_one h]
theorem e_ret_none {d : Dat} {rt : Bool} {src : List Nat} {E : Sto} : sRet1 E ⟨d, rt, src, none⟩ = .ok (.rt d false) := by
  cases rt <;> simp [sRet1, PV.take]
def sIf1 (g h : Sto → Res Fl) (E : Sto) (b : Bool) : Res Fl := match b with
  | true => g E
  | false => h E
theorem e_if {t : Sto → Res Bool} {g h : Sto → Res Fl} {E : Sto} : sIf t g h E = (t E).bind (sIf1 g h E) := by
  unfold sIf
  cases t E with
  | ok b => cases b <;> rfl
  | exc c => rfl
  | no => rfl
theorem e_if_t {g h : Sto → Res Fl} {E : Sto} : sIf1 g h E true = g E := (rfl)
theorem e_if_f {g h : Sto → Res Fl} {E : Sto} : sIf1 g h E false = h E := (rfl)
def sSet1 (k : Bool) (i : Nat) (E : Sto) (r : Rs) : Res Fl :=
  if i < (PV.take k r E).1.length then .ok (.nx ((PV.take k r E).1.set i (some (r.d, (PV.take k r E).2)))) else .no
theorem e_set {k : Bool} {i : Nat} {f : Sto → Res Rs} {E : Sto} : sSet k i f E = (f E).bind (sSet1 k i E) := (rfl)
theorem e_set_deep {k : Bool} {i : Nat} {E : Sto} {d : Dat} {rt : Bool} {src : List Nat} (h : i < E.length) : sSet1 k i E ⟨d, rt, src, some []⟩ = .ok (.nx (E.set i (some (d, .deep)))) := by
  simp [sSet1, take_flat, h]
theorem e_set_none {k : Bool} {i : Nat} {E : Sto} {d : Dat} {rt : Bool} {src : List Nat} (h : i < (downE E src).length) : sSet1 k i E ⟨d, rt, src, none⟩ = .ok (.nx ((downE E src).set i (some (d, if rt then .root else .shr)))) := by
  simp [sSet1, PV.take, h]
theorem e_down_nil {E : Sto} : downE E [] = E := (rfl)
theorem e_wipe_nil {E : Sto} : wipeE E [] = E := (rfl)
theorem e_wipe {E : Sto} {i : Nat} {l : List Nat} : wipeE E (i :: l) = (wipeE E l).set i none := (rfl)
theorem e_c {d : Dat} {E : Sto} : fC d E = .ok ⟨d, false, [], some []⟩ := (rfl)
theorem e_slot0 {x : Option (Dat × Kd)} {E : Sto} : slot (x :: E) 0 = x := (rfl)
theorem e_slotS {x : Option (Dat × Kd)} {E : Sto} {i : Nat} : slot (x :: E) (i + 1) = slot E i := (rfl)
def fVar1 (i : Nat) (o : Option (Dat × Kd)) : Res Rs := match o with
  | some (d, k) => .ok (rVar i d k)
  | none => .no
theorem e_var {i : Nat} {E : Sto} : fVar i E = fVar1 i (slot E i) := (rfl)
theorem e_var1 {i : Nat} {d : Dat} {k : Kd} : fVar1 i (some (d, k)) = .ok (rVar i d k) := (rfl)
theorem e_rv_int {i : Nat} {z : Int} {k : Kd} : rVar i (.int z) k = ⟨.int z, false, [], some []⟩ := (rfl)
theorem e_rv_str {i : Nat} {z : Tx} {k : Kd} : rVar i (.str z) k = ⟨.str z, false, [], some []⟩ := (rfl)
theorem e_rv_bl {i : Nat} {z : Bool} {k : Kd} : rVar i (.bl z) k = ⟨.bl z, false, [], some []⟩ := (rfl)
theorem e_rv_non {i : Nat} {k : Kd} : rVar i .non k = ⟨.non, false, [], some []⟩ := (rfl)
theorem e_rv_lstD {i : Nat} {xs : List Dat} : rVar i (.lst xs) .deep = ⟨.lst xs, false, [i], some [i]⟩ := (rfl)
theorem e_rv_lstR {i : Nat} {xs : List Dat} : rVar i (.lst xs) .root = ⟨.lst xs, false, [i], none⟩ := (rfl)
theorem e_rv_lstS {i : Nat} {xs : List Dat} : rVar i (.lst xs) .shr = ⟨.lst xs, false, [i], none⟩ := (rfl)
theorem e_rv_dicD {i : Nat} {ks : List Tx} {xs : List Dat} : rVar i (.dic ks xs) .deep = ⟨.dic ks xs, false, [i], some [i]⟩ := (rfl)
theorem e_rv_dicR {i : Nat} {ks : List Tx} {xs : List Dat} : rVar i (.dic ks xs) .root = ⟨.dic ks xs, false, [i], none⟩ := (rfl)
theorem e_rv_dicS {i : Nat} {ks : List Tx} {xs : List Dat} : rVar i (.dic ks xs) .shr = ⟨.dic ks xs, false, [i], none⟩ := (rfl)
def fBin1 (g : Rs → Rs → Res Rs) (fb : Sto → Res Rs) (E : Sto) (ra : Rs) : Res Rs := (fb E).bind (g ra)
theorem e_bin {g : Rs → Rs → Res Rs} {fa fb : Sto → Res Rs} {E : Sto} : fBin g fa fb E = (fa E).bind (fBin1 g fb E) := (rfl)
theorem e_bin1 {g : Rs → Rs → Res Rs} {fb : Sto → Res Rs} {E : Sto} {ra : Rs} : fBin1 g fb E ra = (fb E).bind (g ra) := (rfl)
theorem e_one {g : Rs → Res Rs} {f : Sto → Res Rs} {E : Sto} : fOne g f E = (f E).bind g := (rfl)
theorem e_tOf {f : Sto → Res Rs} {E : Sto} : tOf f E = (f E).bind toB := (rfl)
theorem e_toB {b rt : Bool} {s : List Nat} {m : Option (List Nat)} : toB ⟨.bl b, rt, s, m⟩ = .ok b := (rfl)
def tNot1 (b : Bool) : Res Bool := .ok (!b)
theorem e_tNot {f : Sto → Res Bool} {E : Sto} : tNot' f E = (f E).bind tNot1 := (rfl)
theorem e_tNot1 {b : Bool} : tNot1 b = .ok (!b) := (rfl)
def tAnd1 (g : Sto → Res Bool) (E : Sto) (b : Bool) : Res Bool := match b with
  | true => g E
  | false => .ok false
def tOr1 (g : Sto → Res Bool) (E : Sto) (b : Bool) : Res Bool := match b with
  | true => .ok true
  | false => g E
theorem e_tAnd {f g : Sto → Res Bool} {E : Sto} : tAnd' f g E = (f E).bind (tAnd1 g E) := by
  unfold tAnd'
  cases f E with
  | ok b => cases b <;> rfl
  | exc c => rfl
  | no => rfl
theorem e_tOr {f g : Sto → Res Bool} {E : Sto} : tOr' f g E = (f E).bind (tOr1 g E) := by
  unfold tOr'
  cases f E with
  | ok b => cases b <;> rfl
  | exc c => rfl
  | no => rfl
theorem e_tAnd_t {g : Sto → Res Bool} {E : Sto} : tAnd1 g E true = g E := (rfl)
theorem e_tAnd_f {g : Sto → Res Bool} {E : Sto} : tAnd1 g E false = .ok false := (rfl)
theorem e_tOr_t {g : Sto → Res Bool} {E : Sto} : tOr1 g E true = .ok true := (rfl)
theorem e_tOr_f {g : Sto → Res Bool} {E : Sto} : tOr1 g E false = g E := (rfl)
def fAnd1 (g : Sto → Res Rs) (E : Sto) (r : Rs) : Res Rs := match r.d with
  | .bl true => g E
  | .bl false => .ok (rsF (.bl false))
  | _ => .no
def fOr1 (g : Sto → Res Rs) (E : Sto) (r : Rs) : Res Rs := match r.d with
  | .bl true => .ok (rsF (.bl true))
  | .bl false => g E
  | _ => .no
theorem e_and {f g : Sto → Res Rs} {E : Sto} : fAnd f g E = (f E).bind (fAnd1 g E) := (rfl)
theorem e_or {f g : Sto → Res Rs} {E : Sto} : fOr f g E = (f E).bind (fOr1 g E) := by
  unfold fOr
  cases f E with
  | ok r =>
    obtain ⟨d, a, b, c⟩ := r
    cases d <;> try rfl
    rename_i x
    cases x <;> rfl
  | exc c => rfl
  | no => rfl
section
variable {rt rt' : Bool} {s s' : List Nat} {m m' : Option (List Nat)}
theorem e_and_t {g : Sto → Res Rs} {E : Sto} : fAnd1 g E ⟨.bl true, rt, s, m⟩ = g E := (rfl)
theorem e_and_f {g : Sto → Res Rs} {E : Sto} : fAnd1 g E ⟨.bl false, rt, s, m⟩ = .ok ⟨.bl false, false, [], some []⟩ := (rfl)
theorem e_or_t {g : Sto → Res Rs} {E : Sto} : fOr1 g E ⟨.bl true, rt, s, m⟩ = .ok ⟨.bl true, false, [], some []⟩ := (rfl)
theorem e_or_f {g : Sto → Res Rs} {E : Sto} : fOr1 g E ⟨.bl false, rt, s, m⟩ = g E := (rfl)
def fNot1 (r : Rs) : Res Rs := match r.d with
  | .bl b => .ok (rsF (.bl (!b)))
  | _ => .no
theorem e_not {f : Sto → Res Rs} {E : Sto} : fNot f E = (f E).bind fNot1 := (rfl)
theorem e_not1 {b : Bool} : fNot1 ⟨.bl b, rt, s, m⟩ = .ok ⟨.bl (!b), false, [], some []⟩ := (rfl)
def fNeg1 (r : Rs) : Res Rs := match r.d with
  | .int i => .ok (rsF (.int (-i)))
  | _ => .no
theorem e_neg {f : Sto → Res Rs} {E : Sto} : fNeg f E = (f E).bind fNeg1 := (rfl)
theorem e_neg1 {i : Int} : fNeg1 ⟨.int i, rt, s, m⟩ = .ok ⟨.int (-i), false, [], some []⟩ := (rfl)
def fIf1 (f g : Sto → Res Rs) (E : Sto) (b : Bool) : Res Rs := match b with
  | true => f E
  | false => g E
theorem e_ife {t : Sto → Res Bool} {f g : Sto → Res Rs} {E : Sto} : fIf t f g E = (t E).bind (fIf1 f g E) := by
  unfold fIf
  cases t E with
  | ok b => cases b <;> rfl
  | exc c => rfl
  | no => rfl
theorem e_ife_t {f g : Sto → Res Rs} {E : Sto} : fIf1 f g E true = f E := (rfl)
theorem e_ife_f {f g : Sto → Res Rs} {E : Sto} : fIf1 f g E false = g E := (rfl)
theorem e_aNil {E : Sto} : aNil E = .ok [] := (rfl)
def aCons1 (g : Sto → Res (List Rs)) (E : Sto) (r : Rs) : Res (List Rs) := (g E).bind fun rs => .ok (r :: rs)
def aCons2 (r : Rs) (rs : List Rs) : Res (List Rs) := .ok (r :: rs)
theorem e_aCons {f : Sto → Res Rs} {g : Sto → Res (List Rs)} {E : Sto} : aCons f g E = (f E).bind (aCons1 g E) := (rfl)
theorem e_aCons1 {g : Sto → Res (List Rs)} {E : Sto} {r : Rs} : aCons1 g E r = (g E).bind (aCons2 r) := (rfl)
theorem e_aCons2 {r : Rs} {rs : List Rs} : aCons2 r rs = .ok (r :: rs) := (rfl)
def fTup1 (rs : List Rs) : Res Rs := if rs.length ≤ 1000000 then .ok (rTup rs) else .no
def fLst1 (rs : List Rs) : Res Rs := if rs.length ≤ 1000000 then .ok (rLst rs) else .no
theorem e_tup {a : Sto → Res (List Rs)} {E : Sto} : fTup a E = (a E).bind fTup1 := (rfl)
theorem e_lst {a : Sto → Res (List Rs)} {E : Sto} : fLst a E = (a E).bind fLst1 := (rfl)
theorem e_tup1 {rs : List Rs} (h : rs.length ≤ 1000000) : fTup1 rs = .ok ⟨.tup (rs.map (·.d)), false, allSrc rs, allMv rs⟩ := by
  unfold fTup1
  rw [if_pos h]
  rfl
theorem e_lst1 {rs : List Rs} (h : rs.length ≤ 1000000) : fLst1 rs = .ok ⟨.lst (rs.map (·.d)), true, allSrc rs, allMv rs⟩ := by
  unfold fLst1
  rw [if_pos h]
  rfl
theorem e_src0 : allSrc [] = [] := (rfl)
theorem e_srcS {r : Rs} {rs : List Rs} : allSrc (r :: rs) = r.src ++ allSrc rs := (rfl)
theorem e_mv0 : allMv [] = some [] := (rfl)
def mvC (m : List Nat) (o : Option (List Nat)) : Option (List Nat) := match o with
  | some n => some (m ++ n)
  | none => none
theorem e_mvS {d : Dat} {l : List Nat} {rs : List Rs} : allMv (⟨d, rt, s, some l⟩ :: rs) = mvC l (allMv rs) := by
  simp only [allMv, mvC]
  cases allMv rs <;> rfl
theorem e_mvN {d : Dat} {rs : List Rs} : allMv (⟨d, rt, s, none⟩ :: rs) = none := by
  simp only [allMv]
theorem e_mvC {l n : List Nat} : mvC l (some n) = some (l ++ n) := (rfl)
theorem e_mvC0 {l : List Nat} : mvC l none = none := (rfl)
theorem e_add_i {i j : Int} : gAdd ⟨.int i, rt, s, m⟩ ⟨.int j, rt', s', m'⟩ = .ok ⟨.int (i + j), false, [], some []⟩ := (rfl)
theorem e_add_s {x y : Tx} (h : x.length + y.length ≤ 1000000) : gAdd ⟨.str x, rt, s, m⟩ ⟨.str y, rt', s', m'⟩ = .ok ⟨.str (x ++ y), false, [], some []⟩ := if_pos h
theorem e_add_l {x y : List Dat} (h : x.length + y.length ≤ 1000000) : gAdd ⟨.lst x, rt, s, m⟩ ⟨.lst y, rt', s', m'⟩ = .ok (rNewL (x ++ y) (s ++ s')) := if_pos h
theorem e_sub {i j : Int} : gSub ⟨.int i, rt, s, m⟩ ⟨.int j, rt', s', m'⟩ = .ok ⟨.int (i - j), false, [], some []⟩ := (rfl)
theorem e_mod {i j : Int} (h : 0 < j) : gMod ⟨.int i, rt, s, m⟩ ⟨.int j, rt', s', m'⟩ = .ok ⟨.int (i % j), false, [], some []⟩ := by
  show (if cMod i j = true then _ else _) = _
  rw [if_pos (by simpa [cMod] using h)]
  rfl
theorem e_fdv {i j : Int} (h : 0 < j) (h2 : j < 1073741824) : gFdv ⟨.int i, rt, s, m⟩ ⟨.int j, rt', s', m'⟩ = .ok ⟨.int (i / j), false, [], some []⟩ := by
  show (if cFdv i j = true then _ else _) = _
  rw [if_pos (by simp [cFdv, h, h2])]
  rfl
theorem e_mul {i j : Int} (h : cMul i j = true) : gMul ⟨.int i, rt, s, m⟩ ⟨.int j, rt', s', m'⟩ = .ok ⟨.int (i * j), false, [], some []⟩ := by
  show (if cMul i j = true then _ else _) = _
  rw [if_pos h]
  rfl
theorem e_mul_s {x : Tx} {j : Int} (h : -1000000 ≤ j ∧ j ≤ 1000000 ∧ x.length * j.toNat ≤ 1000000) : gMul ⟨.str x, rt, s, m⟩ ⟨.int j, rt', s', m'⟩ = .ok ⟨.str (List.replicate j.toNat x).flatten, false, [], some []⟩ := if_pos h
theorem e_pow18 : gPow ⟨.int 10, rt, s, m⟩ ⟨.int 18, rt', s', m'⟩ = .ok ⟨.int 1000000000000000000, false, [], some []⟩ := by
  have h : cPow 10 18 = true := by decide
  simp only [gPow, gI, h, if_true]
  rfl
theorem e_lt {i j : Int} : gLt ⟨.int i, rt, s, m⟩ ⟨.int j, rt', s', m'⟩ = .ok ⟨.bl (decide (i < j)), false, [], some []⟩ := (rfl)
theorem e_le {i j : Int} : gLe ⟨.int i, rt, s, m⟩ ⟨.int j, rt', s', m'⟩ = .ok ⟨.bl (decide (i ≤ j)), false, [], some []⟩ := (rfl)
theorem e_gt {i j : Int} : gGt ⟨.int i, rt, s, m⟩ ⟨.int j, rt', s', m'⟩ = .ok ⟨.bl (decide (j < i)), false, [], some []⟩ := (rfl)
theorem e_ge {i j : Int} : gGe ⟨.int i, rt, s, m⟩ ⟨.int j, rt', s', m'⟩ = .ok ⟨.bl (decide (j ≤ i)), false, [], some []⟩ := (rfl)
def gEq1 (neg b : Bool) : Res Rs := .ok ⟨.bl (if neg then !b else b), false, [], some []⟩
theorem e_eq {a b : Dat} : gEq ⟨a, rt, s, m⟩ ⟨b, rt', s', m'⟩ = (eqF a b).bind (gEq1 false) := (rfl)
theorem e_ne {a b : Dat} : gNe ⟨a, rt, s, m⟩ ⟨b, rt', s', m'⟩ = (eqF a b).bind (gEq1 true) := (rfl)
theorem e_eq1 {b : Bool} : gEq1 false b = .ok ⟨.bl b, false, [], some []⟩ := (rfl)
theorem e_ne1 {b : Bool} : gEq1 true b = .ok ⟨.bl (!b), false, [], some []⟩ := (rfl)
theorem eqF_s {x y : Tx} : eqF (.str x) (.str y) = .ok (decide (x = y)) := (rfl)
theorem eqF_i {x y : Int} : eqF (.int x) (.int y) = .ok (decide (x = y)) := by
  show Res.ok (x == y) = _
  rw [show (x == y) = decide (x = y) from rfl]
theorem eqF_b {x y : Bool} : eqF (.bl x) (.bl y) = .ok (x == y) := (rfl)
theorem eqF_ln {xs : List Dat} : eqF (.lst xs) (.lst []) = .ok (decide (xs.length = 0)) := by
  cases xs
  · rfl
  · simp [eqF, eqD, vw, eqL]
theorem eqF_rn {xs : List Dat} : eqF (.rol xs) (.lst []) = .ok (decide (xs.length = 0)) := by
  cases xs
  · rfl
  · simp [eqF, eqD, vw, eqL]
theorem e_in_s {neg : Bool} {c : Nat} {y : Tx} : gIn neg ⟨.str [c], rt, s, m⟩ ⟨.str y, rt', s', m'⟩ = .ok (rsB neg (decide (c ∈ y))) := (rfl)
def gIn1 (neg b : Bool) : Res Rs := .ok (rsB neg b)
theorem e_in_l {neg : Bool} {a : Dat} {ys : List Dat} : gIn neg ⟨a, rt, s, m⟩ ⟨.lst ys, rt', s', m'⟩ = (anyEq a ys).bind (gIn1 neg) := (rfl)
theorem e_in_r {neg : Bool} {a : Dat} {ys : List Dat} : gIn neg ⟨a, rt, s, m⟩ ⟨.rol ys, rt', s', m'⟩ = (anyEq a ys).bind (gIn1 neg) := (rfl)
theorem e_in_t {neg : Bool} {a : Dat} {ys : List Dat} : gIn neg ⟨a, rt, s, m⟩ ⟨.tup ys, rt', s', m'⟩ = (anyEq a ys).bind (gIn1 neg) := (rfl)
theorem e_in_d {neg : Bool} {x : Tx} {ks : List Tx} {ds : List Dat} : gIn neg ⟨.str x, rt, s, m⟩ ⟨.dic ks ds, rt', s', m'⟩ = .ok (rsB neg (ks.contains x)) := (rfl)
theorem e_in1 {neg b : Bool} : gIn1 neg b = .ok (rsB neg b) := (rfl)
theorem e_rsB_f {b : Bool} : rsB false b = ⟨.bl b, false, [], some []⟩ := (rfl)
theorem e_rsB_t {b : Bool} : rsB true b = ⟨.bl (!b), false, [], some []⟩ := (rfl)
theorem anyEq_s {x : Tx} : ∀ {ys : List Tx}, anyEq (.str x) (ys.map .str) = .ok (ys.contains x)
  | [] => rfl
  | y :: ys => by
    show (eqF (.str y) (.str x)).bind _ = _
    rw [eqF_s, bind_ok, anyEq_s, bind_ok, List.contains_cons]
    have : decide (y = x) = (x == y) := by
      by_cases h : y = x
      · rw [decide_eq_true h, h]
        exact (beq_self_eq_true x).symm
      · rw [decide_eq_false h]
        exact (beq_eq_false_iff_ne.mpr fun e => h e.symm).symm
    rw [this]
theorem e_pick_s {r : Rs} {x : Tx} : pick r (.str x) = ⟨.str x, false, [], some []⟩ := (rfl)
theorem e_pick_i {r : Rs} {x : Int} : pick r (.int x) = ⟨.int x, false, [], some []⟩ := (rfl)
theorem e_pick_b {r : Rs} {x : Bool} : pick r (.bl x) = ⟨.bl x, false, [], some []⟩ := (rfl)
theorem e_pick_l {r : Rs} {x : List Dat} : pick r (.lst x) = ⟨.lst x, false, r.src, none⟩ := (rfl)
theorem e_pick_d {r : Rs} {ks : List Tx} {x : List Dat} : pick r (.dic ks x) = ⟨.dic ks x, false, r.src, none⟩ := (rfl)
def subs1 (r : Rs) (o : Option Dat) : Res Rs := match o with
  | some d => .ok (pick r d)
  | none => .no
def subsS (n : Nat) (o : Option Nat) : Res Rs := match o with
  | some c => if n ≤ 1000000 then .ok ⟨.str [c], false, [], some []⟩ else .no
  | none => .no
theorem e_subs_l {xs : List Dat} {i : Int} : gSubs ⟨.lst xs, rt, s, m⟩ ⟨.int i, rt', s', m'⟩ = subs1 ⟨.lst xs, rt, s, m⟩ (dAt xs i) := by
  first
    | (simp only [gSubs, subs1]; done)
    | (simp only [gSubs, subs1]; cases dAt xs i <;> rfl)
theorem e_subs_r {xs : List Dat} {i : Int} : gSubs ⟨.rol xs, rt, s, m⟩ ⟨.int i, rt', s', m'⟩ = subs1 ⟨.rol xs, rt, s, m⟩ (dAt xs i) := by
  first
    | (simp only [gSubs, subs1]; done)
    | (simp only [gSubs, subs1]; cases dAt xs i <;> rfl)
theorem e_subs_t {xs : List Dat} {i : Int} : gSubs ⟨.tup xs, rt, s, m⟩ ⟨.int i, rt', s', m'⟩ = subs1 ⟨.tup xs, rt, s, m⟩ (dAt xs i) := by
  first
    | (simp only [gSubs, subs1]; done)
    | (simp only [gSubs, subs1]; cases dAt xs i <;> rfl)
theorem e_subs_s {x : Tx} {i : Int} : gSubs ⟨.str x, rt, s, m⟩ ⟨.int i, rt', s', m'⟩ = subsS x.length ((ixN x.length i).bind (fun j => x[j]?)) := by
  first
    | (simp only [gSubs, subsS]; done)
    | (simp only [gSubs, subsS]; cases (ixN x.length i).bind (fun j => x[j]?) <;> rfl)
theorem e_subs_d {ks : List Tx} {ds : List Dat} {x : Tx} : gSubs ⟨.dic ks ds, rt, s, m⟩ ⟨.str x, rt', s', m'⟩ = subs1 ⟨.dic ks ds, rt, s, m⟩ (dGet ks ds x) := by
  first
    | (simp only [gSubs, subs1]; done)
    | (simp only [gSubs, subs1]; cases dGet ks ds x <;> rfl)
theorem e_subs1 {r : Rs} {d : Dat} : subs1 r (some d) = .ok (pick r d) := (rfl)
theorem e_subsS {n : Nat} {c : Nat} (h : n ≤ 1000000) : subsS n (some c) = .ok ⟨.str [c], false, [], some []⟩ := by
  unfold subsS
  simp only [if_pos h]
theorem e_oNone {E : Sto} : oNone E = .ok none := (rfl)
def oSome1 (r : Rs) : Res (Option Int) := match r.d with
  | .int i => .ok (some i)
  | _ => .no
theorem e_oSome {f : Sto → Res Rs} {E : Sto} : oSome f E = (f E).bind oSome1 := (rfl)
theorem e_oSome1 {i : Int} : oSome1 ⟨.int i, rt, s, m⟩ = .ok (some i) := (rfl)
def fSl1 (lo hi : Sto → Res (Option Int)) (E : Sto) (r : Rs) : Res Rs := (lo E).bind fun l => (hi E).bind fun h => gSl r l h
def fSl2 (hi : Sto → Res (Option Int)) (E : Sto) (r : Rs) (l : Option Int) : Res Rs := (hi E).bind (gSl r l)
theorem e_sl {f : Sto → Res Rs} {lo hi : Sto → Res (Option Int)} {E : Sto} : fSl f lo hi E = (f E).bind (fSl1 lo hi E) := (rfl)
theorem e_sl1 {lo hi : Sto → Res (Option Int)} {E : Sto} {r : Rs} : fSl1 lo hi E r = (lo E).bind (fSl2 hi E r) := (rfl)
theorem e_sl2 {hi : Sto → Res (Option Int)} {E : Sto} {r : Rs} {l : Option Int} : fSl2 hi E r l = (hi E).bind (gSl r l) := (rfl)
theorem e_sl_s {x : Tx} {lo hi : Option Int} (h : x.length ≤ 1000000) : gSl ⟨.str x, rt, s, m⟩ lo hi = .ok ⟨.str (cutD x lo hi), false, [], some []⟩ := if_pos h
theorem e_sl_l {x : List Dat} {lo hi : Option Int} (h : x.length ≤ 1000000) : gSl ⟨.lst x, rt, s, m⟩ lo hi = .ok (rNewL (cutD x lo hi) s) := if_pos h
theorem e_sl_r {x : List Dat} {lo hi : Option Int} (h : x.length ≤ 1000000) : gSl ⟨.rol x, rt, s, m⟩ lo hi = .ok (rNewL (cutD x lo hi) s) := if_pos h
theorem e_newL {x : List Dat} {l : List Nat} (h : flatL x = true) : rNewL x l = ⟨.lst x, true, l, some []⟩ := by
  unfold rNewL
  rw [if_pos h]
theorem e_newN {x : List Dat} {l : List Nat} (h : flatL x = false) : rNewL x l = ⟨.lst x, true, l, none⟩ := by
  unfold rNewL
  rw [h]
  rfl
theorem e_len_l {x : List Dat} : gLen ⟨.lst x, rt, s, m⟩ = .ok ⟨.int x.length, false, [], some []⟩ := (rfl)
theorem e_len_r {x : List Dat} : gLen ⟨.rol x, rt, s, m⟩ = .ok ⟨.int x.length, false, [], some []⟩ := (rfl)
theorem e_len_t {x : List Dat} : gLen ⟨.tup x, rt, s, m⟩ = .ok ⟨.int x.length, false, [], some []⟩ := (rfl)
theorem e_len_d {ks : List Tx} {x : List Dat} : gLen ⟨.dic ks x, rt, s, m⟩ = .ok ⟨.int ks.length, false, [], some []⟩ := (rfl)
theorem e_len_s {x : Tx} (h : x.length ≤ 1000000) : gLen ⟨.str x, rt, s, m⟩ = .ok ⟨.int x.length, false, [], some []⟩ := if_pos h
theorem ints_map : ∀ ns : List Int, intsOf (ns.map .int) = some ns
  | [] => rfl
  | n :: ns => by
    show (intsOf (ns.map .int)).map _ = _
    rw [ints_map ns]
    rfl
theorem bls_map : ∀ ns : List Bool, blsOf (ns.map .bl) = some ns
  | [] => rfl
  | n :: ns => by
    show (blsOf (ns.map .bl)).map _ = _
    rw [bls_map ns]
    rfl
theorem strs_map : ∀ ns : List Tx, strsOf (ns.map .str) = some ns
  | [] => rfl
  | n :: ns => by
    show (strsOf (ns.map .str)).map _ = _
    rw [strs_map ns]
    rfl
theorem flat_strs : ∀ ns : List Tx, flatL (ns.map .str) = true
  | [] => rfl
  | n :: ns => by
    show (flat (.str n) && flatL (ns.map .str)) = true
    rw [flat_strs ns]
    rfl
theorem flat_ints : ∀ ns : List Int, flatL (ns.map .int) = true
  | [] => rfl
  | n :: ns => by
    show (flat (.int n) && flatL (ns.map .int)) = true
    rw [flat_ints ns]
    rfl
theorem e_sum {ns : List Int} : gSum ⟨.lst (ns.map .int), rt, s, m⟩ = .ok ⟨.int ns.sum, false, [], some []⟩ := by
  simp only [gSum, seqOf, Option.bind, ints_map]
  rfl
theorem e_all {ns : List Bool} : gAll ⟨.lst (ns.map .bl), rt, s, m⟩ = .ok ⟨.bl (ns.all id), false, [], some []⟩ := by
  simp only [gAll, seqOf, Option.bind, bls_map]
  rfl
theorem e_any {ns : List Bool} : gAny ⟨.lst (ns.map .bl), rt, s, m⟩ = .ok ⟨.bl (ns.any id), false, [], some []⟩ := by
  simp only [gAny, seqOf, Option.bind, bls_map]
  rfl
def fM11 (g : Tx → Rs → Res Rs) (f : Sto → Res Rs) (E : Sto) (ra : Rs) : Res Rs := match ra.d with
  | .str a => (f E).bind fun rb => g a rb
  | _ => .no
theorem e_m1 {g : Tx → Rs → Res Rs} {fo f : Sto → Res Rs} {E : Sto} : fM1 g fo f E = (fo E).bind (fM11 g f E) := (rfl)
theorem e_m11 {g : Tx → Rs → Res Rs} {f : Sto → Res Rs} {E : Sto} {a : Tx} : fM11 g f E ⟨.str a, rt, s, m⟩ = (f E).bind (g a) := (rfl)
theorem e_startsw {a b : Tx} : gStartsW a ⟨.str b, rt, s, m⟩ = .ok ⟨.bl (a.take b.length == b), false, [], some []⟩ := (rfl)
theorem e_strip {a b : Tx} (h : a.length ≤ 1000000) : gStrip a ⟨.str b, rt, s, m⟩ = .ok ⟨.str (stripL (fun c => b.contains c) a), false, [], some []⟩ := if_pos h
theorem e_lstrip {a b : Tx} (h : a.length ≤ 1000000) : gLstrip a ⟨.str b, rt, s, m⟩ = .ok ⟨.str (a.dropWhile (fun c => b.contains c)), false, [], some []⟩ := if_pos h
theorem e_split {a b : Tx} (h : b ≠ [] ∧ b.all (· < 256) = true ∧ a.length ≤ 1000000) : gSplit a ⟨.str b, rt, s, m⟩ = .ok ⟨.lst ((splitL b a).map Dat.str), true, [], some []⟩ := by
  show (if _ then _ else _) = _
  rw [if_pos h, e_newL (flat_strs _)]
theorem e_join {a : Tx} {ys : List Tx} (h : (ys.map (·.length)).sum + ys.length * a.length ≤ 1000000) : gJoin a ⟨.lst (ys.map .str), rt, s, m⟩ = .ok ⟨.str (joinT a ys), false, [], some []⟩ := by
  simp only [gJoin, seqOf, Option.bind, strs_map]
  rw [if_pos h]
  rfl
theorem e_iOf {f : Sto → Res Rs} {E : Sto} : iOf f E = (f E).bind gItems := (rfl)
theorem e_it_l {xs : List Dat} : gItems ⟨.lst xs, rt, s, m⟩ = .ok (xs, s) := (rfl)
theorem e_it_r {xs : List Dat} : gItems ⟨.rol xs, rt, s, m⟩ = .ok (xs, s) := (rfl)
theorem e_it_t {xs : List Dat} : gItems ⟨.tup xs, rt, s, m⟩ = .ok (xs, s) := (rfl)
theorem e_it_s {x : Tx} : gItems ⟨.str x, rt, s, m⟩ = .ok (x.map (fun c => Dat.str [c]), []) := (rfl)
theorem e_range1 {f : Sto → Res Rs} {E : Sto} : iRange1 f E = (f E).bind gRange1 := (rfl)
theorem e_rg1 {j : Int} (h : -1000000 ≤ j ∧ j ≤ 1000000) : gRange1 ⟨.int j, rt, s, m⟩ = .ok ((List.range j.toNat).map (fun (i : Nat) => Dat.int i), []) := by
  show (if _ then _ else _) = _
  rw [if_pos h]
  simp
def sFor1 (T : Tgt) (g : Sto → Res Fl) (E : Sto) (p : List Dat × List Nat) : Res Fl := forGo T g p.1 (downE E p.2)
theorem e_for {T : Tgt} {fi : Sto → Res (List Dat × List Nat)} {g : Sto → Res Fl} {E : Sto} : sFor T fi g E = (fi E).bind (sFor1 T g E) := (rfl)
theorem e_for1 {T : Tgt} {g : Sto → Res Fl} {E : Sto} {xs : List Dat} {l : List Nat} : sFor1 T g E (xs, l) = forGo T g xs (downE E l) := (rfl)
theorem e_tTrue {E : Sto} : tTrue E = .ok true := (rfl)
def stepC1 (fe : Sto → Res Rs) (E1 : Sto) (b : Bool) : Res (Option Rs) := match b with
  | true => (fe E1).bind fun r => .ok (some r)
  | false => .ok none
def stepC2 (r : Rs) : Res (Option Rs) := .ok (some r)
theorem e_step {T : Tgt} {E E1 : Sto} {ft : Sto → Res Bool} {fe : Sto → Res Rs} {d : Dat} (h : bindT T d E = some E1) : stepC T E ft fe d = (ft E1).bind (stepC1 fe E1) := by
  simp only [stepC, h]
  cases ft E1 with
  | ok b => cases b <;> rfl
  | exc c => rfl
  | no => rfl
theorem e_step_t {fe : Sto → Res Rs} {E1 : Sto} : stepC1 fe E1 true = (fe E1).bind stepC2 := (rfl)
theorem e_step_f {fe : Sto → Res Rs} {E1 : Sto} : stepC1 fe E1 false = .ok none := (rfl)
theorem e_step2 {r : Rs} : stepC2 r = .ok (some r) := (rfl)
theorem e_bind1 {i : Nat} {d : Dat} {E : Sto} (h : i < E.length) : bindT (.one i) d E = some (E.set i (some (d, .shr))) := if_pos h
def fCall1 (n : Nat) (c : Con) (rs : List Rs) : Res Rs := if rs.length ≠ n then .no else match c (rs.map (·.d)) with
  | .ok (d, dp) => .ok (if flat d then rsF d else if dp then ⟨d, false, [], some []⟩ else ⟨d, false, allSrc rs, none⟩)
  | .exc cl => .exc cl
  | .no => .no
theorem e_call {n : Nat} {c : Con} {a : Sto → Res (List Rs)} {E : Sto} : fCall n c a E = (a E).bind (fCall1 n c) := (rfl)
def fCall2 (rs : List Rs) (p : Dat × Bool) : Res Rs := .ok (if flat p.1 then rsF p.1 else if p.2 then ⟨p.1, false, [], some []⟩ else ⟨p.1, false, allSrc rs, none⟩)
theorem e_call1 {n : Nat} {c : Con} {rs : List Rs} (h : rs.length = n) : fCall1 n c rs = (c (rs.map (·.d))).bind (fCall2 rs) := by
  unfold fCall1
  rw [if_neg (fun z => z h)]
  cases c (rs.map (·.d)) with
  | ok p => rfl
  | exc c => rfl
  | no => rfl
theorem e_call_s {rs : List Rs} {x : Tx} {b : Bool} : fCall2 rs (.str x, b) = .ok ⟨.str x, false, [], some []⟩ := (rfl)
theorem e_call_i {rs : List Rs} {x : Int} {b : Bool} : fCall2 rs (.int x, b) = .ok ⟨.int x, false, [], some []⟩ := (rfl)
theorem e_call_b {rs : List Rs} {x : Bool} {b : Bool} : fCall2 rs (.bl x, b) = .ok ⟨.bl x, false, [], some []⟩ := (rfl)
theorem e_call_n {rs : List Rs} {b : Bool} : fCall2 rs (.non, b) = .ok ⟨.non, false, [], some []⟩ := (rfl)
theorem e_call_l {rs : List Rs} {x : List Dat} : fCall2 rs (.lst x, true) = .ok ⟨.lst x, false, [], some []⟩ := (rfl)
theorem e_call_d {rs : List Rs} {ks : List Tx} {x : List Dat} : fCall2 rs (.dic ks x, true) = .ok ⟨.dic ks x, false, [], some []⟩ := (rfl)
theorem e_isi_s {t : String} {own : Tx → Option Bool} {x : Tx} : gIsi (isT t) own ⟨.str x, rt, s, m⟩ = .ok ⟨.bl (decide ("str" = t)), false, [], some []⟩ := by
  show (match isT t "str" with | some b => Res.ok (rsF (.bl b)) | none => .no) = _
  have : isT t "str" = some (decide ("str" = t)) := by
    unfold isT isB
    rw [if_pos (by decide)]
    by_cases h : "str" = t
    · rw [if_pos h, decide_eq_true h]
    · rw [if_neg h, if_neg (fun z => absurd z.1 (by decide)), decide_eq_false h]
  rw [this]
  rfl
end
theorem e_cut_hi {α : Type} {xs : List α} {z : Int} (h : 0 ≤ z) : cutD xs none (some z) = xs.take z.toNat := by
  obtain ⟨k, rfl⟩ := Int.eq_ofNat_of_zero_le h
  unfold cutD
  rw [HT.sIx_none, HT.sIx_nat, List.drop_zero, Nat.sub_zero]
  show List.take (min k xs.length) xs = List.take k xs
  by_cases hk : k ≤ xs.length
  · rw [Nat.min_eq_left hk]
  · rw [Nat.min_eq_right (by omega), List.take_of_length_le (Nat.le_refl _), List.take_of_length_le (by omega)]
theorem e_cut_lo {α : Type} {xs : List α} {z : Int} (h : 0 ≤ z) : cutD xs (some z) none = xs.drop z.toNat := by
  obtain ⟨k, rfl⟩ := Int.eq_ofNat_of_zero_le h
  unfold cutD
  rw [HT.sIx_none, HT.sIx_nat]
  show List.take (xs.length - min k xs.length) (List.drop (min k xs.length) xs) = List.drop k xs
  by_cases hk : k ≤ xs.length
  · rw [Nat.min_eq_left hk, List.take_of_length_le (by rw [List.length_drop]; exact Nat.le_refl _)]
  · rw [Nat.min_eq_right (by omega), List.drop_of_length_le (Nat.le_refl _), List.drop_of_length_le (by omega), List.take_nil]
theorem e_cut_mid {α : Type} {xs : List α} {z y : Int} (h : 0 ≤ z) (h2 : 0 ≤ y) : cutD xs (some z) (some y) = (xs.drop z.toNat).take (y.toNat - z.toNat) := by
  obtain ⟨k, rfl⟩ := Int.eq_ofNat_of_zero_le h
  obtain ⟨l, rfl⟩ := Int.eq_ofNat_of_zero_le h2
  unfold cutD
  rw [HT.sIx_nat, HT.sIx_nat]
  show List.take (min l xs.length - min k xs.length) (List.drop (min k xs.length) xs) = List.take (l - k) (List.drop k xs)
  by_cases hk : k ≤ xs.length
  · rw [Nat.min_eq_left hk]
    by_cases hl : l ≤ xs.length
    · rw [Nat.min_eq_left hl]
    · rw [Nat.min_eq_right (by omega), List.take_of_length_le (by rw [List.length_drop]; exact Nat.le_refl _), List.take_of_length_le (by rw [List.length_drop]; omega)]
  · rw [Nat.min_eq_right (by omega : xs.length ≤ k), List.drop_of_length_le (Nat.le_refl _), List.drop_of_length_le (by omega), List.take_nil, List.take_nil]
theorem e_cut_last {α : Type} {xs : List α} : cutD xs (some (-1)) none = xs.drop (xs.length - 1) := by
  unfold cutD
  rw [HT.sIx_none]
  have : HT.sIx xs.length 0 (some (-1)) = xs.length - 1 := by
    show (if (-1 : Int) < 0 then ((-1 : Int) + (xs.length : Int)).toNat else min (-1 : Int).toNat xs.length) = _
    rw [if_pos (by decide)]
    omega
  rw [this, List.take_of_length_le (by rw [List.length_drop]; exact Nat.le_refl _)]
theorem e_cut_init {α : Type} {xs : List α} : cutD xs none (some (-1)) = xs.take (xs.length - 1) := by
  unfold cutD
  rw [HT.sIx_none]
  have : HT.sIx xs.length xs.length (some (-1)) = xs.length - 1 := by
    show (if (-1 : Int) < 0 then ((-1 : Int) + (xs.length : Int)).toNat else min (-1 : Int).toNat xs.length) = _
    rw [if_pos (by decide)]
    omega
  rw [this, List.drop_zero, Nat.sub_zero]
section
variable {rt rt' : Bool} {s s' : List Nat} {m m' : Option (List Nat)}
theorem e_rv_rol {i : Nat} {ns : List Int} {k : Kd} : rVar i (.rol (ns.map .int)) k = ⟨.rol (ns.map .int), false, [], some []⟩ := by
  unfold rVar
  have : flat (.rol (ns.map .int)) = true := by
    show flatL _ = true
    exact flat_ints ns
  rw [if_pos this]
  rfl
def sPar1 (is : List Nat) (E : Sto) (rs : List Rs) : Res Fl := match sPar.bindK is (rs.map (·.d)) (PV.take false (rTup rs) E).2 (PV.take false (rTup rs) E).1 with
  | some E' => .ok (.nx E')
  | none => .no
theorem e_par {is : List Nat} {f : Sto → Res (List Rs)} {E : Sto} : sPar is f E = (f E).bind (sPar1 is E) := (rfl)
theorem e_par2 {i j : Nat} {E : Sto} {a b : Dat} (hi : i < E.length) (hj : j < E.length) (h : decide (i = j) = false) : sPar1 [i, j] E [⟨a, rt, s, some []⟩, ⟨b, rt', s', some []⟩] = .ok (.nx ((E.set i (some (a, .deep))).set j (some (b, .deep)))) := by
  have hne : ¬ i = j := of_decide_eq_false h
  have e : rTup [⟨a, rt, s, some []⟩, ⟨b, rt', s', some []⟩] = ⟨.tup [a, b], false, s ++ (s' ++ []), some []⟩ := rfl
  unfold sPar1
  rw [e, take_flat]
  simp [sPar.bindK, hi, hj, hne]
theorem e_par3 {i j l : Nat} {E : Sto} {a b c : Dat} {rt'' : Bool} {s'' : List Nat} (hi : i < E.length) (hj : j < E.length) (hl : l < E.length) (h : decide (i = j) = false) (h1 : decide (i = l) = false) (h2 : decide (j = l) = false) :
    sPar1 [i, j, l] E [⟨a, rt, s, some []⟩, ⟨b, rt', s', some []⟩, ⟨c, rt'', s'', some []⟩] = .ok (.nx (((E.set i (some (a, .deep))).set j (some (b, .deep))).set l (some (c, .deep)))) := by
  have hne : ¬ i = j := of_decide_eq_false h
  have hn1 : ¬ i = l := of_decide_eq_false h1
  have hn2 : ¬ j = l := of_decide_eq_false h2
  have e : rTup [⟨a, rt, s, some []⟩, ⟨b, rt', s', some []⟩, ⟨c, rt'', s'', some []⟩] = ⟨.tup [a, b, c], false, s ++ (s' ++ (s'' ++ [])), some []⟩ := rfl
  unfold sPar1
  rw [e, take_flat]
  simp [sPar.bindK, hi, hj, hl, hne, hn1, hn2]
end
def wh2 (t : Sto → Res Bool) (g : Sto → Res Fl) (n : Nat) (fl : Fl) : Res Fl := match fl with
  | .nx E' => whileGo t g n E'
  | .ct E' => whileGo t g n E'
  | .bk E' => .ok (.nx E')
  | .rt d dp => .ok (.rt d dp)
def wh1 (t : Sto → Res Bool) (g : Sto → Res Fl) (n : Nat) (E : Sto) (b : Bool) : Res Fl := match b with
  | true => (g E).bind (wh2 t g n)
  | false => .ok (.nx E)
theorem e_wh1_t {t : Sto → Res Bool} {g : Sto → Res Fl} {n : Nat} {E : Sto} : wh1 t g n E true = (g E).bind (wh2 t g n) := (rfl)
theorem e_wh1_f {t : Sto → Res Bool} {g : Sto → Res Fl} {n : Nat} {E : Sto} : wh1 t g n E false = .ok (.nx E) := (rfl)
theorem e_wh2_nx {t : Sto → Res Bool} {g : Sto → Res Fl} {n : Nat} {E : Sto} : wh2 t g n (.nx E) = whileGo t g n E := (rfl)
theorem e_wh2_ct {t : Sto → Res Bool} {g : Sto → Res Fl} {n : Nat} {E : Sto} : wh2 t g n (.ct E) = whileGo t g n E := (rfl)
theorem e_wh2_bk {t : Sto → Res Bool} {g : Sto → Res Fl} {n : Nat} {E : Sto} : wh2 t g n (.bk E) = .ok (.nx E) := (rfl)
theorem e_wh2_rt {t : Sto → Res Bool} {g : Sto → Res Fl} {n : Nat} {d : Dat} {b : Bool} : wh2 t g n (.rt d b) = .ok (.rt d b) := (rfl)
end PV

namespace PV
open PySem PySem.Spec PyProof.Rows L2
/-- what a row of such a set holds -/
def tOfE (e : Int × Value) : Str := match e.2 with
  | .str k _ => k
  | _ => Str.empty
def TxE (w : World) (e : Int × Value) : Prop := ∃ k u, e.2 = Value.str k u ∧ e.1 = hashStr w k
/-- the set at a holds the texts ks, each once -/
def TxSet (w : World) (h : Heap) (a : Addr) (ks : List Str) : Prop :=
  ∃ o es ep t, h.get? a = some o ∧ o.ExactSet ∧ o.data = .set es ep t ∧ (∀ e ∈ es.toList, TxE w e) ∧ (es.toList.map tOfE).Perm ks ∧ ks.Nodup ∧ es.size < scanBound ∧ t.fits es.size = true ∧ Ris t.place.toList ∧ (w.params.followText "set-order" = true ∨ t.led = true)
section
variable {P : Program} {w : World} {h h' : Heap} {a : Addr} {ks : List Str}
theorem TxSet.keep (x : TxSet w h a ks) (k : ∀ o, h.get? a = some o → h'.get? a = some o) : TxSet w h' a ks := by
  obtain ⟨o, es, ep, t, ho, r⟩ := x
  exact ⟨o, es, ep, t, k o ho, r⟩
theorem tx_elems {l : List (Int × Value)} (g : ∀ e ∈ l, TxE w e) : ElemsOf (PySem.strKind P w) l := fun e he => by
  obtain ⟨k, u, q1, q2⟩ := g e he
  exact ⟨⟨k, by rw [q1]; exact strKind_is P w k u, q2⟩, by rw [q1]; rfl⟩
theorem tx_is {e : Int × Value} (g : TxE w e) (k : Str) : (PySem.strKind P w).is k e.2 = true ↔ tOfE e = k := by
  obtain ⟨k0, u, q1, _⟩ := g
  unfold tOfE
  rw [q1]
  show ((k0 == k) = true) ↔ k0 = k
  exact ⟨fun z => eq_of_beq z, fun z => z ▸ beq_self_eq_true k0⟩
theorem tx_mem {l : List (Int × Value)} (g : ∀ e ∈ l, TxE w e) (k : Str) : k ∈ l.map tOfE ↔ ∃ e ∈ l, (PySem.strKind P w).is k e.2 = true := by
  rw [List.mem_map]
  exact ⟨fun ⟨e, m, q⟩ => ⟨e, m, (tx_is (g e m) k).2 q⟩, fun ⟨e, m, q⟩ => ⟨e, m, (tx_is (g e m) k).1 q⟩⟩
end
section
variable {P : Program} {w : World} {A : Around} {E : Value → Shared → Prop} {s : Shared} {a : Addr} {ks : List Str}
theorem tx_tail {g : Bool → Sem Unit} (hg : ∀ (b : Bool) (s1 : Shared) (Q1 : Unit → Shared → Prop), Q1 () s1 → wpAny (model P w) A (g b) Q1 E s1)
    {o : Obj} {es : Array (Int × Value)} {ep : Nat} {t : SetTable} (ho : s.heap.get? a = some o) (hex : o.ExactSet) (hd : o.data = .set es ep t)
    {e1 : Array (Int × Value)} {t2 : SetTable} {k1 : List Str} (g1 : ∀ e ∈ e1.toList, TxE w e) (p1 : (e1.toList.map tOfE).Perm k1) (nd : k1.Nodup)
    (hb : e1.size < scanBound) (hf : t2.fits e1.size = true) (hr : Ris t2.place.toList) (hl : w.params.followText "set-order" = true ∨ t2.led = true) {dm : Bool} {R : Option Bool → Shared → Prop}
    (hR : ∀ h', Heap.SameBut a s.heap h' → TxSet w h' a k1 → R (some true) { s with heap := h' }) :
    wpAny (model P w) A (do
        storeSet a e1 t2
        if (!dm && t2.tooFull) = true then do
            g (relayAll t2 e1 (SetTable.grown e1.size)).2.2
            storeSet a (relayAll t2 e1 (SetTable.grown e1.size)).1 (relayAll t2 e1 (SetTable.grown e1.size)).2.1
            pure (some true)
          else pure (some true)) R E s := by
  refine wpAny_bind (wpAny_storeSet_of ho hd ?_ (fits_of_scanBound hb))
  have o1 := store_at (es' := e1) (t' := t2) ho hd
  have b1 := Heap.SameBut.update s.heap a (Obj.putSet e1 t2)
  split
  · have pm := relayAll_perm t2 e1 (SetTable.grown e1.size)
    have f3 := relayAll_fits t2 e1 (SetTable.grown e1.size)
    have r3 := relayAll_ris t2 e1 (SetTable.grown e1.size)
    have l3 := relayAll_led t2 e1 (SetTable.grown e1.size)
    generalize relayAll t2 e1 (SetTable.grown e1.size) = Z at pm f3 r3 l3 ⊢
    obtain ⟨e2, t3, gv⟩ := Z
    dsimp only at pm f3 r3 l3 ⊢
    have hz : e2.size = e1.size := by rw [← Array.length_toList, pm.length_eq, Array.length_toList]
    have b2 : e2.size < scanBound := by rw [hz]; exact hb
    refine wpAny_bind (hg _ _ _ ?_)
    refine wpAny_bind (wpAny_storeSet_of o1 rfl ?_ (fits_of_scanBound b2))
    have o2 := store_at (es' := e2) (t' := t3) o1 rfl
    refine wpAny_pure (hR _ (b1.trans (Heap.SameBut.update _ a _)) ?_)
    exact ⟨_, e2, _, t3, o2, hex, rfl, fun e he => g1 e (pm.mem_iff.mp he), (pm.map tOfE).trans p1, nd, b2, f3, r3, hl.imp id fun z => by rw [l3]; exact z⟩
  · exact wpAny_pure (hR _ b1 ⟨_, e1, _, t2, o1, hex, rfl, g1, p1, nd, hb, hf, hr, hl⟩)
theorem tx_add {k : Str} {u : Tok} {Q : Bool → Shared → Prop} (x : TxSet w s.heap a ks) (room : ks.length + 1 < scanBound)
    (hQ : ∀ h', Heap.SameBut a s.heap h' → TxSet w h' a (if k ∈ ks then ks else ks ++ [k]) → Q (!decide (k ∈ ks)) { s with heap := h' }) :
    wpAny (model P w) A (setAddHashed a (.str k u) ((PySem.strKind P w).hash k)) Q E s := by
  obtain ⟨o, es, ep, t, ho, hex, hd, g, pk, nd, hb, hf, hr, hl⟩ := x
  have hn : es.size = ks.length := by rw [← Array.length_toList, ← pk.length_eq, List.length_map]
  have hkey : (PySem.strKind P w).is k (.str k u) = true := strKind_is P w k u
  have hsc : (Value.str k u).scannable = true := rfl
  have hel : ElemsOf (PySem.strKind P w) es.toList := tx_elems g
  unfold setAddHashed setAddHashedIn
  refine wpAny_holding (wpAny_bind (wpAny_setState_of ho hd hf ?_))
  dsimp only
  rw [byScan_of hsc hb hel]
  simp only [↓reduceIte]
  unfold setAddByScan
  refine wpAny_bind ?_
  refine wpAny_bind (wpAny_rule ?_)
  refine wpAny_bind (wpAny_setScan_of hkey ho hd hf hel ?_)
  cases hfi : List.findIdx? (fun e => (PySem.strKind P w).is k e.2) es.toList with
  | some j =>
    dsimp only
    obtain ⟨hj, pj, _⟩ := List.findIdx?_eq_some_iff_getElem.mp hfi
    have hm : k ∈ ks := pk.mem_iff.mp ((tx_mem (P := P) g k).2 ⟨es.toList[j], List.getElem_mem hj, pj⟩)
    refine wpAny_pure (wpAny_pure ?_)
    have q := hQ s.heap (Heap.SameBut.refl a s.heap) (by
      rw [if_pos hm]
      exact ⟨o, es, ep, t, ho, hex, hd, g, pk, nd, hb, hf, hr, hl⟩)
    rw [decide_eq_true hm] at q
    exact q
  | none =>
    dsimp only
    have hm : k ∉ ks := fun z => by
      obtain ⟨e, he, q⟩ := (tx_mem (P := P) g k).1 (pk.mem_iff.mpr z)
      have c := List.findIdx?_eq_none_iff.mp hfi e he
      rw [q] at c
      cases c
    have gw : ∀ (b : Bool) {s1 : Shared} {Q1 : Unit → Shared → Prop}, Q1 () s1 → wpAny (model P w) A (match b with | true => rule "set.scan.the-table-gave-way" | false => pure ()) Q1 E s1 := fun b s1 Q1 q => by
      cases b
      · exact wpAny_pure q
      · exact wpAny_rule q
    have pm := layNew_perm t es ((PySem.strKind P w).hash k) (.str k u)
    have f1 := layNew_fits t es ((PySem.strKind P w).hash k) (.str k u)
    have r1 := layNew_ris t es ((PySem.strKind P w).hash k) (.str k u) hr
    have l1 := layNew_led t es ((PySem.strKind P w).hash k) (.str k u)
    generalize layNew t es ((PySem.strKind P w).hash k) (.str k u) = Z at pm f1 r1 l1 ⊢
    obtain ⟨e1, t1, dm, gv⟩ := Z
    dsimp only at pm f1 r1 l1 ⊢
    rw [Array.toList_push] at pm
    have p1 : (e1.toList.map tOfE).Perm (ks ++ [k]) := by
      have z := pm.map tOfE
      rw [List.map_append] at z
      exact z.trans (pk.append_right [k])
    have g1 : ∀ e ∈ e1.toList, TxE w e := fun e he => by
      rcases List.mem_append.mp (pm.mem_iff.mp he) with z | z
      · exact g e z
      · rw [List.mem_singleton.mp z]
        exact ⟨k, u, rfl, rfl⟩
    have n1 : (ks ++ [k]).Nodup := List.nodup_append.mpr ⟨nd, List.nodup_cons.mpr ⟨(fun z => nomatch z), List.Pairwise.nil⟩, fun y hy z hz e => hm (by rw [← List.mem_singleton.mp hz, ← e]; exact hy)⟩
    have hz : e1.size = ks.length + 1 := by rw [← Array.length_toList, pm.length_eq, List.length_append, Array.length_toList, hn]; rfl
    have b1 : e1.size < scanBound := by rw [hz]; exact room
    have led : w.params.followText "set-order" = true ∨ t1.led = true := hl.imp id fun z => by rw [l1]; exact z
    have fi : ∀ h', Heap.SameBut a s.heap h' → TxSet w h' a (ks ++ [k]) → Q true { s with heap := h' } := fun h' sb r => by
      have q := hQ h' sb
      rw [if_neg hm, decide_eq_false hm] at q
      exact q r
    refine wpAny_bind (gw _ ?_)
    have gt : ∀ (b : Bool) (s1 : Shared) (Q1 : Unit → Shared → Prop), Q1 () s1 → wpAny (model P w) A (match b with | true => rule "set.scan.the-table-gave-way" | false => pure ()) Q1 E s1 := fun b s1 Q1 q => gw b q
    split
    · refine wpAny_bind ?_
      rw [hashByValue_scannable 8 hsc]
      refine wpAny_pure ?_
      refine tx_tail ?_ ho hex hd g1 p1 n1 b1 ?_ ?_ ?_ ?_
      · intro b s1 Q1 q
        cases b <;> first | exact wpAny_pure q | exact wpAny_rule q
      · first | (split <;> first | exact f1 | exact SetTable.fits_plain_off f1) | exact f1
      · first | (split <;> exact r1) | exact r1
      · first | (split <;> exact led) | exact led
      · intro h' sb r
        dsimp only
        exact wpAny_pure (fi h' sb r)
    · refine wpAny_bind (wpAny_pure ?_)
      simp only [↓reduceIte]
      refine tx_tail ?_ ho hex hd g1 p1 n1 b1 f1 r1 led ?_
      · intro b s1 Q1 q
        cases b <;> first | exact wpAny_pure q | exact wpAny_rule q
      · intro h' sb r
        dsimp only
        exact wpAny_pure (fi h' sb r)
end
/-- the texts, each where it is met first -/
def nubS (ks : List Str) : List Str := ks.foldl (fun l k => if k ∈ l then l else l ++ [k]) []
theorem nub_len : ∀ (ks l : List Str), (ks.foldl (fun l k => if k ∈ l then l else l ++ [k]) l).length ≤ l.length + ks.length
  | [], l => by simp
  | k :: ks, l => by
    rw [List.foldl_cons]
    have := nub_len ks (if k ∈ l then l else l ++ [k])
    have h2 : (if k ∈ l then l else l ++ [k]).length ≤ l.length + 1 := by
      split <;> simp
    simp
    omega
section
variable {prog : Program} {w : World} {A : Around} {R : Result → Shared → Prop} {I : Addr} {fp wr : List Addr} {G : Array GenState → Array GenState → Prop} {n : Nat} {P : Nat → Value → Prop} {St : Nat → Shared → Prop}
theorem tx_loop (W : WalksS prog w A.in1 I fp wr G n P St) (S : Addr) (hSf : S ∉ fp) (xs : List Str) (hsz : xs.length = n) (h64 : n + 1 < scanBound) (hval : ∀ i v, P i v → ∃ t, v = .str (xs.getD i Str.empty) t) :
    ∀ (k i : Nat) (s : Shared), n - i = k → i ≤ n → St i s → TxSet w s.heap S (nubS (xs.take i)) →
      (∀ s', Moved (S :: wr) G s s' → TxSet w s'.heap S (nubS xs) → R (.ok (.ret .none)) s') → codeAny (model prog w) A (.builtin "set.update.loop" ⟨[.ref S, .ref I], []⟩) R s := by
  have hSw : S ∉ wr := fun z => hSf (W.sub _ z)
  have hsub : ∀ b ∈ wr, b ∈ S :: wr := fun b z => List.mem_cons_of_mem _ z
  intro k
  induction k with
  | zero =>
    intro i s hk hi hst hS hR
    have e : i = n := by omega
    subst e
    refine codeAny_builtin PyProof.Rows.F.entry_set_update_loop ?_
    rw [Around.under_plainId PyProof.Rows.F.plain_set_update_loop _]
    show wpAny _ A.in1 (pyNext (.ref I) >>= _) _ _ s
    refine wpAny_bind (W.done s _ _ hst fun s' hm => ?_)
    show wpAny _ A.in1 (ret Value.none) _ _ s'
    refine wpAny_pure (hR s' (hm.mono hsub) ?_)
    rw [List.take_of_length_le (by omega)] at hS
    exact hS.keep fun o q => hm.heap S o hSw q
  | succ k ih =>
    intro i s hk hi hst hS hR
    have hlt : i < n := by omega
    refine codeAny_builtin PyProof.Rows.F.entry_set_update_loop ?_
    rw [Around.under_plainId PyProof.Rows.F.plain_set_update_loop _]
    show wpAny _ A.in1 (pyNext (.ref I) >>= _) _ _ s
    refine wpAny_bind (W.item i s _ _ hlt hst fun v s' hP hst' hm => ?_)
    obtain ⟨t, rfl⟩ := hval i v hP
    have hS' := hS.keep (h' := s'.heap) fun o q => hm.heap S o hSw q
    show wpAny _ A.in1 (holding [Value.str (xs.getD i Str.empty) t] (setAdd S (.str (xs.getD i Str.empty) t)) >>= _) _ _ s'
    refine wpAny_bind (wpAny_holding ?_)
    unfold setAdd
    refine wpAny_holding ?_
    refine wpAny_bind ((PySem.strKind prog w).pyHash (k := xs.getD i Str.empty) (strKind_is _ _ _ _) ?_)
    have hnl := nub_len (xs.take i) []
    have htl : (xs.take i).length ≤ n := by
      rw [List.length_take]
      omega
    refine tx_add (s := { s' with toks := s'.toks + 1 }) hS' (by unfold nubS; simp at hnl; omega) fun h' hsb hS2 => ?_
    have en : (if xs.getD i Str.empty ∈ nubS (xs.take i) then nubS (xs.take i) else nubS (xs.take i) ++ [xs.getD i Str.empty]) = nubS (xs.take (i + 1)) := by
      have hi2 : i < xs.length := by omega
      have e1 : xs.take (i + 1) = xs.take i ++ [xs.getD i Str.empty] := by
        rw [List.take_add_one, List.getElem?_eq_getElem hi2, List.getD_eq_getElem?_getD, List.getElem?_eq_getElem hi2]
        rfl
      rw [e1]
      unfold nubS
      rw [List.foldl_append]
      rfl
    rw [en] at hS2
    refine wpAny_pure ⟨plainId_quiet PyProof.Rows.F.plain_set_update_loop _, ih (i + 1) _ (by omega) hlt (W.frame _ s' _ _ hst' (Nat.le_succ _) fun b hb o e => ?_) hS2 fun s2 hm2 hSn => ?_⟩
    · exact (hsb.2 b fun z : b = S => hSf (z ▸ hb)).trans e
    · refine hR s2 (Moved.trans W.gtrans ((hm.mono hsub).then_heap (Nat.le_succ _) fun b o hb e => ?_) hm2) hSn
      exact (hsb.2 b fun z : b = S => hb (z ▸ List.mem_cons_self)).trans e
end
section
variable {P : Program} {w : World} {A : Around} {E : Value → Shared → Prop} {s : Shared}
/-- the new, empty set -/
abbrev nwS (w : World) : Obj := { cls := .type "set", dict := none, data := .set #[] 0 (.fresh 0 0 (!w.params.followText "set-order")) }
theorem tx_fresh {h : Heap} {a : Addr} (ho : h.get? a = some (nwS w)) : TxSet w h a [] :=
  ⟨_, #[], 0, _, ho, ⟨rfl, rfl, rfl⟩, rfl, (fun e he => by simp at he), by simp, List.Pairwise.nil, (by decide), (by rfl), List.Pairwise.nil, by
    show _ ∨ (!w.params.followText "set-order") = true
    cases w.params.followText "set-order"
    · exact .inr rfl
    · exact .inl rfl⟩
/-- set(xs), xs a list of texts -/
theorem call_setTx {l : Addr} {items : Array Value} {xs : List Str} {Q : Value → Shared → Prop} (hh : A.handled = none) (hl : s.heap.IsList l items) (hi : StrsAre items.toList xs) (h64 : xs.length + 1 < scanBound)
    (h : ∀ (h' : Heap) (tk : Nat), TxSet w h' s.heap.objs.size (nubS xs) → (∀ b o, s.heap.get? b = some o → h'.get? b = some o) → Q (.ref s.heap.objs.size) { s with heap := h', toks := tk }) :
    wpAny (model P w) A (call (.type "set") [.ref l]) Q E s := by
  have isz : items.size = xs.length := by rw [← StrsAre.len_eq hi, Array.length_toList]
  obtain ⟨c, tl, hmro⟩ := PySem.F.called_set.mro
  have hmade := PySem.F.called_set.made
  have hsub := PySem.F.called_set.sub
  refine wpAny_call (codeAny_of_tree ?_)
  show wpAny _ _ (callAny (.type "set") _) _ _ _
  refine wpAny_pure ⟨Code.quiet_builtin _ (by decide +kernel), codeAny_builtin PySem.F.entry_type_call ?_⟩
  rw [Around.under_plain (weight_type_call_type "set" [.ref l] []) rfl]
  have h1 := PySem.F.called_set.notType
  have h2 := PySem.F.called_set.canCreate
  have hct := PySem.F.typeCall_set_1 (.ref l)
  repeat (any_goals (first | assumption | wp_step))
  refine codeAny_mono (code_set_led1 (.ref l) (E := E) (Q₁ := fun obj s1 => obj = .ref s.heap.objs.size ∧ s1 = { s with heap := s.heap.push (nwS w) }) ⟨rfl, rfl⟩) fun r s1 hr => ?_
  cases r with
  | error e => exact hr
  | ok fl =>
    cases fl with
    | ret obj =>
      obtain ⟨rfl, rfl⟩ := hr
      have hS : (s.heap.push (nwS w)).get? s.heap.objs.size = some (nwS w) := Heap.get?_push_size _ rfl
      have hT : Shared.TypeIs { s with heap := s.heap.push (nwS w) } (.ref s.heap.objs.size) "set" := ⟨_, hS, rfl⟩
      have hli := PySem.F.called_set.init.lookup
      have hbi := PySem.F.called_set.init.bind (.ref s.heap.objs.size)
      repeat (any_goals (first | assumption | wp_step))
      refine codeAny_mono (codeAny_call_builtin (R := wants (fun r s2 => r = .none ∧ ∃ h' tk, s2 = { s with heap := h', toks := tk } ∧ TxSet w h' s.heap.objs.size (nubS xs) ∧ (∀ b o, s.heap.get? b = some o → h'.get? b = some o)) E)
        PySem.F.called_set.init.plain PySem.F.entry_set_init (check_set_init_1 hT ?_)) fun r2 s2 hr2 => ?_
      · obtain ⟨ol, hol, hcl, nl, hdl⟩ := hl
        obtain ⟨oc, od, ot, osl⟩ := ol
        simp only at hcl hdl
        subst hcl; subst hdl
        have hol' : (s.heap.push (nwS w)).get? l = some { cls := .type "list", dict := od, data := .seq items nl, slots := osl } := Heap.get?_push_of_some _ hol
        have hsls := PySem.F.sub_list_set
        have hslf := PySem.F.sub_list_frozenset
        have hne : (Value.type "list" == Value.type "dict") = false := by decide
        have hl1 : (s.heap.push (nwS w)).IsList l items := ⟨_, hol', rfl, nl, rfl⟩
        unfold Builtin.«set.__init__» noKeywords Builtin.Frozenset.updateFrom
        generalize hPI : pyIter = PI
        wp_walk
        subst hPI
        refine wpAny_pyIter_list hl1 ?_
        refine wpAny_bind (wpAny_runValue ?_)
        have lS : l < s.heap.objs.size := Heap.lt_size hol
        have hh3 : A.in1.in1.in1.handled = none := by simp [hh]
        have z1 : (s.heap.push (nwS w)).objs.size = s.heap.objs.size + 1 := Heap.size_push ..
        have nI : l ≠ (s.heap.push (nwS w)).objs.size := by
          rw [z1]
          exact Nat.ne_of_lt (Nat.lt_succ_of_lt lS)
        have hSf : s.heap.objs.size ∉ [(s.heap.push (nwS w)).objs.size, l] := by
          rw [z1]
          simp only [List.mem_cons, List.not_mem_nil, or_false, not_or]
          exact ⟨Nat.ne_of_lt (Nat.lt_succ_self _), Nat.ne_of_gt lS⟩
        have hval : ∀ (i : Nat) (v : Value), items[i]? = some v → ∃ t, v = .str (xs.getD i Str.empty) t := fun i v hv => SS.strs_at hi i v (by rw [Array.getElem?_toList]; exact hv)
        refine tx_loop ((Walks.list hh3 _ l nI items).toS) s.heap.objs.size hSf xs isz.symm (by rw [isz]; exact h64) hval (items.size - 0) 0 _ (by omega) (Nat.zero_le _)
          ⟨⟨_, Heap.get?_push_size _ rfl, rfl, rfl⟩, (hl1.push _)⟩ ?hS0 ?hR
        case hS0 =>
          have hg : ((s.heap.push (nwS w)).push { cls := .type "list_iterator", data := .fields #[.ref l, .int 0 0] }).get? s.heap.objs.size = some (nwS w) := Heap.get?_push_of_some _ hS
          exact tx_fresh hg
        case hR =>
          intro s' hm hS'
          obtain ⟨h', g', d', tk', os'⟩ := s'
          have eg : g' = s.gens := hm.gens
          have ed : d' = s.drawn := hm.drawn
          have eo : os' = s.os := hm.os
          subst eg; subst ed; subst eo
          show wpAny _ _ _ _ _ _
          refine wpAny_pure ?_
          show wpAny _ _ (ret Value.none) _ _ _
          refine wpAny_pure ⟨rfl, h', tk', rfl, hS', fun b o e => ?_⟩
          have hb : b < s.heap.objs.size := Heap.lt_size e
          exact hm.heap b o (by
            rw [z1]
            simp only [List.mem_cons, List.not_mem_nil, or_false, not_or]
            exact ⟨Nat.ne_of_lt hb, Nat.ne_of_lt (Nat.lt_succ_of_lt hb)⟩) (Heap.get?_push_of_some _ (Heap.get?_push_of_some _ e))
      · cases r2 with
        | error e => exact hr2
        | ok fl2 =>
          cases fl2 with
          | ret r =>
            obtain ⟨rfl, h', tk, rfl, hS', hk'⟩ := hr2
            repeat (any_goals (first | assumption | wp_step))
            exact h _ _ hS' hk'
          | _ => exact hr2.elim
    | _ => exact hr.elim
/-- len of it -/
theorem call_lenTx {a : Addr} {ks : List Str} {Q : Value → Shared → Prop} (x : TxSet w s.heap a ks) (h : Q (.int ks.length (s.toks + 1)) { s with toks := s.toks + 1 + 1 }) : wpAny (model P w) A (call (.builtin "len") [.ref a]) Q E s := by
  obtain ⟨o, es, ep, t, ho, hex, hd, _, pk, _, hb, hf, _⟩ := x
  have hn : es.size = ks.length := by rw [← Array.length_toList, ← pk.length_eq, List.length_map]
  refine call_len_set ho hex hd hf (by unfold scanBound at hb; omega) ?_
  rw [hn]
  exact h
theorem strs_ofE : ∀ (l : List Value), (∀ v ∈ l, ∃ k u, v = Value.str k u) → ∃ ys, StrsAre l ys
  | [], _ => ⟨[], .nil⟩
  | v :: l, h => by
    obtain ⟨k, u, rfl⟩ := h v List.mem_cons_self
    obtain ⟨ys, h2⟩ := strs_ofE l fun z hz => h z (List.mem_cons_of_mem _ hz)
    exact ⟨k :: ys, .cons k u h2⟩
theorem strs_map_tof {l : List Value} {ys : List Str} (h : StrsAre l ys) : l.map (fun v => tOfE (0, v)) = ys := by
  induction h with
  | nil => rfl
  | cons k u _ ih => rw [List.map_cons, ih]; rfl
/-- sorted of it -/
theorem sorted_setTx {a : Addr} {ks : List Str} {Q : Value → Shared → Prop} (x : TxSet w s.heap a ks) (hh : A.handled = none)
    (hQ : ∀ s' p (out : Array Value) (c : Nat) (ys : List Str), (∀ b o, s.heap.get? b = some o → s'.heap.get? b = some o) → s'.gens = s.gens → s'.os = s.os → s.heap.objs.size ≤ p →
      s'.heap.get? p = some (seqObj "list" out c) → StrsAre out.toList ys → ys.Perm ks → sortedS ys = true → Q (.ref p) s') :
    wpAny (model P w) A (call (.builtin "sorted") [.ref a]) Q E s := by
  obtain ⟨o, es, ep, t, ho, hex, hd, g, pk, nd, hb, hf, hr, hl⟩ := x
  have hn : es.size = ks.length := by rw [← Array.length_toList, ← pk.length_eq, List.length_map]
  refine Calls.call_function_entry kind_sorted plain_sorted entry_sorted (args_sorted1 _) ?_
  unfold Builtin.«sorted»
  refine wpAny_bind (m := checkCount "sorted" 1 1 _) (wpAny_pure ?_)
  refine wpAny_bind (collect_set (A := A.in1) hh ⟨o, ho, hex.1, hd⟩ hf hb hr hl fun s1 vs k1 hz g1 o1 pm => ?_)
  have hvl : vs.length = es.size := by rw [pm.length_eq, List.length_map, Array.length_toList]
  have hvz : vs.length ≤ sizeLine := by
    rw [hvl]
    exact fits_of_scanBound hb
  obtain ⟨zs, hI⟩ := strs_ofE vs fun v hv => by
    obtain ⟨e, he, q⟩ := List.mem_map.mp (pm.mem_iff.mp hv)
    obtain ⟨k, u, q1, _⟩ := g e he
    exact ⟨k, u, q ▸ q1⟩
  have pz : zs.Perm ks := by
    rw [← strs_map_tof hI]
    have q := pm.map fun v => tOfE (0, v)
    rw [List.map_map] at q
    exact q.trans pk
  refine wpAny_bind (wpAny_newList ?_ hvz)
  have hoL : (s1.heap.push (seqObj "list" vs.toArray 0)).get? s1.heap.objs.size = some (seqObj "list" vs.toArray 0) := Heap.get?_push_size _ rfl
  refine wpAny_bind (wpAny_holding (wpAny_call_entry slot_list_sort ⟨_, hoL, rfl⟩ entry_list_sort (list_sort_treeKAny strKind_oneLt hoL hI.keysOf (fun v1 v2 rest e => keyKind_strs (by rw [← e]; exact hI)) hvz fun st' hp hs => ⟨_, rfl, ?_⟩) (args_list_sort _)))
  obtain ⟨ys, a1, a2, a3⟩ := sorted_out_str hI hp hs
  obtain ⟨c, hc⟩ := sortedHeap_at (vs := vs) (out := (arrOf st').map (·.2)) hoL
  refine wpAny_pure ⟨_, rfl, hQ _ s1.heap.objs.size _ c ys (fun b u e => ?_) g1 o1 hz hc a1 (a2.trans pz) a3⟩
  have q := k1 b u e
  have hlt := Heap.lt_size q
  show (sortedHeap (s1.heap.push (seqObj "list" vs.toArray 0)) s1.heap.objs.size vs _).get? b = some u
  rw [sortedHeap_old (Nat.ne_of_lt hlt) (by rw [size_push']; exact Nat.lt_succ_of_lt hlt)]
  exact Heap.get?_push_of_some _ q
end
end PV

namespace PV
open PySem PySem.Spec L2
mutual
def toPD : Dat → Option PyData
  | .non => some .none
  | .bl b => some (.bool b)
  | .int i => some (.int i)
  | .str x => some (.str (mkS x))
  | .tup xs => (toPDs xs).map .tuple
  | .lst xs => (toPDs xs).map .list
  | _ => none
def toPDs : List Dat → Option (List PyData)
  | [] => some []
  | d :: ds => match toPD d, toPDs ds with
    | some p, some ps => some (p :: ps)
    | _, _ => none
end
theorem toPDs_cons {d : Dat} {ds : List Dat} {ps : List PyData} (h : toPDs (d :: ds) = some ps) : ∃ p qs, toPD d = some p ∧ toPDs ds = some qs ∧ ps = p :: qs := by
  simp only [toPDs] at h
  cases e : toPD d with
  | none => simp only [e] at h; cases h
  | some p =>
    cases e2 : toPDs ds with
    | none => simp only [e, e2] at h; cases h
    | some qs =>
      simp only [e, e2] at h
      injection h with h
      exact ⟨p, qs, rfl, rfl, h.symm⟩
section
variable {X : Cx} {pins : List (Addr × Obj)} {σ : L2.St} {H : Hp} {s : Shared}
mutual
theorem Rep.reads (I : Inv X pins σ H s) : ∀ (d : Dat) (v : V) (fp : List Addr) (u : Value) (p : PyData), Rep (glo X) H d v fp → RelV v u → toPD d = some p → ∃ as, Reads s.heap u p as
  | .non, v, fp, u, p, r, rv, h => by
    simp only [Rep] at r
    simp only [toPD] at h
    cases h
    obtain ⟨rfl, _⟩ := r
    cases (show u = Value.none from rv)
    exact ⟨_, .none⟩
  | .bl b, v, fp, u, p, r, rv, h => by
    simp only [Rep] at r
    simp only [toPD] at h
    cases h
    obtain ⟨rfl, _⟩ := r
    cases (show u = Value.bool b from rv)
    exact ⟨_, .bool b⟩
  | .int i, v, fp, u, p, r, rv, h => by
    simp only [Rep] at r
    simp only [toPD] at h
    cases h
    obtain ⟨rfl, _⟩ := r
    obtain ⟨t, rfl⟩ := (show ∃ t, u = Value.int i t from rv)
    exact ⟨_, .int i t⟩
  | .str x, v, fp, u, p, r, rv, h => by
    simp only [Rep] at r
    simp only [toPD] at h
    cases h
    obtain ⟨rfl, _⟩ := r
    obtain ⟨t, rfl⟩ := (show ∃ t, u = Value.str (mkS x) t from rv)
    exact ⟨_, .str _ t⟩
  | .tup xs, v, fp, u, p, r, rv, h => by
    simp only [Rep] at r
    simp only [toPD] at h
    obtain ⟨a, vs, rfl, q, rl⟩ := r
    cases (show u = Value.ref a from rv)
    cases e : toPDs xs with
    | none => rw [e] at h; cases h
    | some ps =>
      rw [e] at h
      cases h
      obtain ⟨its, rr, ⟨o, ho, hc, n, hd⟩, _⟩ := I.tuple q
      obtain ⟨as, ra⟩ := RepL.reads I xs vs fp its ps rl rr e
      exact ⟨as, .tuple ho hc hd (by simpa using ra)⟩
  | .lst xs, v, fp, u, p, r, rv, h => by
    simp only [Rep] at r
    simp only [toPD] at h
    obtain ⟨a, vs, f, rfl, q, rl, _⟩ := r
    cases (show u = Value.ref a from rv)
    cases e : toPDs xs with
    | none => rw [e] at h; cases h
    | some ps =>
      rw [e] at h
      cases h
      obtain ⟨its, rr, pl, _⟩ := I.list (.inl (.inl q))
      obtain ⟨as, ra⟩ := RepL.reads I xs vs f its ps rl rr e
      obtain ⟨o, ho, hc, n, hd⟩ := pl.isList
      exact ⟨_, .list ho hc hd (by simpa using ra)⟩
  | .rol xs, _, _, _, _, _, _, h => by
    simp only [toPD] at h
    cases h
  | .dic _ _, _, _, _, _, _, _, h => by
    simp only [toPD] at h
    cases h
  | .ins _ _ _, _, _, _, _, _, _, h => by
    simp only [toPD] at h
    cases h
  | .fn _, _, _, _, _, _, _, h => by
    simp only [toPD] at h
    cases h
theorem RepL.reads (I : Inv X pins σ H s) : ∀ (ds : List Dat) (vs : List V) (fp : List Addr) (us : List Value) (ps : List PyData), RepL (glo X) H ds vs fp → Vals vs us → toPDs ds = some ps → ∃ as, ReadsAll s.heap us ps as
  | [], vs, fp, us, ps, r, rv, h => by
    simp only [RepL] at r
    simp only [toPDs] at h
    cases h
    obtain ⟨rfl, _⟩ := r
    cases rv
    exact ⟨_, .nil⟩
  | d :: ds, vs, fp, us, ps, r, rv, h => by
    simp only [RepL] at r
    obtain ⟨v, vs', f, f', rfl, rfl, r1, r2⟩ := r
    obtain ⟨p, qs, e1, e2, rfl⟩ := toPDs_cons h
    cases rv with
    | cons rh rt =>
      obtain ⟨a1, h1⟩ := Rep.reads I d v f _ p r1 rh e1
      obtain ⟨a2, h2⟩ := RepL.reads I ds vs' f' _ qs r2 rt e2
      exact ⟨_, .cons h1 h2⟩
end
end
abbrev Tk := Int ⊕ List Nat
def keyD (d : Dat) : List Tk := match toPD d with
  | some p => PySem.W.keyToks p
  | none => []
def ltK (x y : Dat) : Bool := PyProof.Rows.lexLt PyProof.Rows.itemOrd (keyD x) (keyD y)
def insK (y : Dat) : List Dat → List Dat
  | [] => [y]
  | x :: l => if ltK y x then y :: x :: l else x :: insK y l
def sortK (ds : List Dat) : List Dat := ds.foldl (fun l y => insK y l) []
theorem insK_perm (y : Dat) : ∀ l : List Dat, (insK y l).Perm (l ++ [y])
  | [] => List.Perm.refl _
  | x :: l => by
    unfold insK
    split
    · exact (List.perm_append_singleton y (x :: l)).symm
    · exact (insK_perm y l).cons x
theorem fold_perm : ∀ (ds l : List Dat), (ds.foldl (fun l y => insK y l) l).Perm (l ++ ds)
  | [], l => by simp
  | d :: ds, l => by
    rw [List.foldl_cons]
    refine (fold_perm ds _).trans ?_
    have := (insK_perm d l).append_right ds
    simpa using this
theorem sortK_perm (ds : List Dat) : (sortK ds).Perm ds := fold_perm ds []
abbrev Upw (l : List Dat) : Prop := l.Pairwise fun x y => ltK y x = false
theorem ltK_asym {x y : Dat} (h : ltK x y = true) : ltK y x = false := by
  cases e : ltK y x with
  | false => rfl
  | true =>
    have := PyProof.Rows.lex_trans (O := PyProof.Rows.itemOrd) _ _ _ h e
    rw [PyProof.Rows.lex_irrefl] at this
    cases this
theorem ltK_tr {x y z : Dat} (h1 : ltK y x = false) (h2 : ltK z y = false) : ltK z x = false := by
  cases e : ltK z x with
  | false => rfl
  | true =>
    rcases PyProof.Rows.lex_negTrans (O := PyProof.Rows.itemOrd) _ (keyD y) _ e with q | q
    · exact absurd (q.symm.trans h2) (by decide)
    · exact absurd (q.symm.trans h1) (by decide)
theorem insK_up (y : Dat) : ∀ {l : List Dat}, Upw l → Upw (insK y l)
  | [], _ => List.pairwise_singleton _ _
  | x :: l, h => by
    obtain ⟨h1, h2⟩ := List.pairwise_cons.mp h
    unfold insK
    split
    · rename_i hlt
      refine List.pairwise_cons.mpr ⟨fun z hz => ?_, h⟩
      rcases List.mem_cons.mp hz with rfl | hz
      · exact ltK_asym hlt
      · exact ltK_tr (ltK_asym hlt) (h1 z hz)
    · rename_i hlt
      refine List.pairwise_cons.mpr ⟨fun z hz => ?_, insK_up y h2⟩
      rcases List.mem_append.mp ((insK_perm y l).mem_iff.mp hz) with q | q
      · exact h1 z q
      · rw [List.mem_singleton.mp q]
        simpa using hlt
theorem fold_up : ∀ (ds l : List Dat), Upw l → Upw (ds.foldl (fun l y => insK y l) l)
  | [], _, h => h
  | d :: ds, l, h => by
    rw [List.foldl_cons]
    exact fold_up ds _ (insK_up d h)
theorem sortK_up (ds : List Dat) : Upw (sortK ds) := fold_up ds [] List.Pairwise.nil
theorem up_uniq : ∀ {l m : List Dat}, Upw l → Upw m → l.Perm m → (∀ x ∈ l, ∀ y ∈ l, keyD x = keyD y → x = y) → l = m
  | [], m, _, _, p, _ => (List.Perm.eq_nil p.symm).symm
  | x :: l, [], _, _, p, _ => absurd p.length_eq (by simp)
  | x :: l, y :: m, hl, hm, p, u => by
    obtain ⟨h1, h2⟩ := List.pairwise_cons.mp hl
    obtain ⟨h3, h4⟩ := List.pairwise_cons.mp hm
    have hy : y ∈ x :: l := p.mem_iff.mpr List.mem_cons_self
    have hx : x ∈ y :: m := p.mem_iff.mp List.mem_cons_self
    have e : x = y := by
      rcases List.mem_cons.mp hy with q | hy'
      · exact q.symm
      · rcases List.mem_cons.mp hx with q | hx'
        · exact q
        · exact u x List.mem_cons_self y hy (PyProof.Rows.lex_total (O := PyProof.Rows.itemOrd) _ _ (h3 x hx') (h1 y hy'))
    subst e
    rw [up_uniq h2 h4 p.cons_inv fun a ha b hb => u a (List.mem_cons_of_mem _ ha) b (List.mem_cons_of_mem _ hb)]
def isStrD : Dat → Bool
  | .str _ => true
  | _ => false
def isTupD : Dat → Bool
  | .tup (_ :: _) => true
  | _ => false
def isLstD : Dat → Bool
  | .lst _ => true
  | _ => false
def sortOk (ds : List Dat) : Bool := match toPDs ds with
  | none => false
  | some ps => (ds.all isStrD || ((ds.all isTupD || ds.all isLstD) && decide ((ds.map keyD).Nodup) && ps.all fun p => ps.all fun q => PySem.W.alike p q)) && decide (PyData.depthAll ps ≤ 20) && decide (ds.length ≤ 1000000)
def gSorted (r : Rs) : Res Rs := match r.d with
  | .lst xs => if sortOk xs then .ok (rNewL (sortK xs) r.src) else .no
  | .rol xs => if sortOk xs then .ok (rNewL (sortK xs) r.src) else .no
  | _ => .no
abbrev Bt := Dat × V × List Addr
def encB (b : Bt) : PyData := (toPD b.1).getD .none
theorem depth_in : ∀ {ps : List PyData} {p : PyData}, p ∈ ps → p.depth ≤ PyData.depthAll ps
  | q :: ps, p, h => by
    show p.depth ≤ max q.depth (PyData.depthAll ps)
    rcases List.mem_cons.mp h with rfl | h
    · exact Nat.le_max_left _ _
    · exact Nat.le_trans (depth_in h) (Nat.le_max_right _ _)
section
variable {X : Cx} {pins : List (Addr × Obj)} {σ : L2.St} {H : Hp} {s : Shared}
theorem bts_of (I : Inv X pins σ H s) : ∀ {ds : List Dat} {ws : List V} {fp : List Addr} {us : List Value} {ps : List PyData}, RepL (glo X) H ds ws fp → Vals ws us → toPDs ds = some ps →
    ∃ bs : List Bt, bs.map (·.1) = ds ∧ bs.map encB = ps ∧ (∀ b ∈ bs, Rep (glo X) H b.1 b.2.1 b.2.2 ∧ ∀ a ∈ b.2.2, a ∈ fp) ∧ PySem.W.EachIs (fun u (b : Bt) => RelV b.2.1 u) us bs ∧ PySem.W.EachIs (fun u (b : Bt) => ∃ as, Reads s.heap u (encB b) as) us bs
  | [], ws, fp, us, ps, r, rv, h => by
    simp only [RepL] at r
    simp only [toPDs] at h
    cases h
    obtain ⟨rfl, _⟩ := r
    cases rv
    exact ⟨[], rfl, rfl, (fun _ z => nomatch z), .nil, .nil⟩
  | d :: ds, ws, fp, us, ps, r, rv, h => by
    simp only [RepL] at r
    obtain ⟨v, ws', f, f', rfl, rfl, r1, r2⟩ := r
    obtain ⟨p, qs, e1, e2, rfl⟩ := toPDs_cons h
    cases rv with
    | cons rh rt =>
      obtain ⟨bs, b1, b2, b3, b4, b5⟩ := bts_of I r2 rt e2
      obtain ⟨as, ra⟩ := Rep.reads I d v f _ p r1 rh e1
      have ee : encB (d, v, f) = p := by
        unfold encB
        rw [e1]
        rfl
      refine ⟨(d, v, f) :: bs, by rw [List.map_cons, b1], by rw [List.map_cons, b2, ee], fun b hb => ?_, .cons rh b4, .cons ⟨as, by rw [ee]; exact ra⟩ b5⟩
      rcases List.mem_cons.mp hb with rfl | hb
      · exact ⟨r1, fun a ha => List.mem_append_left _ ha⟩
      · exact ⟨(b3 b hb).1, fun a ha => List.mem_append_right _ ((b3 b hb).2 a ha)⟩
theorem reps_of {G : Glo} {fp : List Addr} : ∀ {bs : List Bt}, (∀ b ∈ bs, Rep G H b.1 b.2.1 b.2.2 ∧ ∀ a ∈ b.2.2, a ∈ fp) → ∃ f, RepL G H (bs.map (·.1)) (bs.map (·.2.1)) f ∧ ∀ a ∈ f, a ∈ fp
  | [], _ => ⟨[], .nil, (fun _ z => nomatch z)⟩
  | b :: bs, h => by
    obtain ⟨f, r, hf⟩ := reps_of (bs := bs) fun c hc => h c (List.mem_cons_of_mem _ hc)
    obtain ⟨r1, h1⟩ := h b List.mem_cons_self
    refine ⟨b.2.2 ++ f, RepL.cons r1 r, fun a ha => ?_⟩
    rcases List.mem_append.mp ha with q | q
    · exact h1 a q
    · exact hf a q
theorem vals_of_each : ∀ {us : List Value} {bs : List Bt}, PySem.W.EachIs (fun u (b : Bt) => RelV b.2.1 u) us bs → Vals (bs.map (·.2.1)) us
  | _, _, .nil => .nil
  | _, _, .cons h t => .cons h (vals_of_each t)
theorem toPDs_mem : ∀ {ds : List Dat} {ps : List PyData}, toPDs ds = some ps → ∀ d ∈ ds, ∃ p ∈ ps, toPD d = some p
  | d :: ds, ps, h, x, hx => by
    obtain ⟨p, qs, e1, e2, rfl⟩ := toPDs_cons h
    rcases List.mem_cons.mp hx with rfl | hx
    · exact ⟨p, List.mem_cons_self, e1⟩
    · obtain ⟨q, hq, e⟩ := toPDs_mem e2 x hx
      exact ⟨q, List.mem_cons_of_mem _ hq, e⟩
theorem toPDs_back : ∀ {ds : List Dat} {ps : List PyData}, toPDs ds = some ps → ∀ p ∈ ps, ∃ d ∈ ds, toPD d = some p
  | [], ps, h, p, hp => by
    simp only [toPDs] at h
    cases h
    cases hp
  | d :: ds, ps, h, p, hp => by
    obtain ⟨q, qs, e1, e2, rfl⟩ := toPDs_cons h
    rcases List.mem_cons.mp hp with rfl | hp
    · exact ⟨d, List.mem_cons_self, e1⟩
    · obtain ⟨x, hx, e⟩ := toPDs_back e2 p hp
      exact ⟨x, List.mem_cons_of_mem _ hx, e⟩
structure SortC (ds : List Dat) (ps : List PyData) : Prop where
  e : toPDs ds = some ps
  al : PySem.W.AllAlike ps
  so : PySem.W.Sortable ps
  un : ∀ x ∈ ds, ∀ y ∈ ds, keyD x = keyD y → x = y
  dp : PyData.depthAll ps ≤ 20
  ln : ds.length ≤ 1000000
theorem map_inj_nodup {α β : Type} {f : α → β} : ∀ {l : List α}, (l.map f).Nodup → ∀ x ∈ l, ∀ y ∈ l, f x = f y → x = y
  | a :: l, h, x, hx, y, hy, e => by
    rw [List.map_cons] at h
    obtain ⟨h1, h2⟩ := List.nodup_cons.mp h
    rcases List.mem_cons.mp hx with rfl | hx' <;> rcases List.mem_cons.mp hy with rfl | hy'
    · rfl
    · exact absurd (List.mem_map.mpr ⟨y, hy', e.symm⟩) h1
    · exact absurd (List.mem_map.mpr ⟨x, hx', e⟩) h1
    · exact map_inj_nodup h2 x hx' y hy' e
theorem strD_of {d : Dat} (h : isStrD d = true) : ∃ x, d = .str x := by
  cases d <;> first | exact ⟨_, rfl⟩ | cases h
theorem tupD_of {d : Dat} (h : isTupD d = true) : ∃ x r, d = .tup (x :: r) := by
  cases d <;> first | (rename_i l; cases l <;> first | exact ⟨_, _, rfl⟩ | cases h) | cases h
theorem sortC_of {ds : List Dat} (h : sortOk ds = true) : ∃ ps, SortC ds ps := by
  unfold sortOk at h
  cases e : toPDs ds with
  | none =>
    rw [e] at h
    cases h
  | some ps =>
    rw [e] at h
    simp only [Bool.and_eq_true, Bool.or_eq_true, decide_eq_true_eq] at h
    obtain ⟨⟨h1, h2⟩, h3⟩ := h
    refine ⟨ps, ?_⟩
    rcases h1 with h1 | ⟨⟨h4, h5⟩, h6⟩
    · have st : ∀ p ∈ ps, ∃ x, p = .str (mkS x) := fun p hp => by
        obtain ⟨d, hd, ed⟩ := toPDs_back e p hp
        obtain ⟨x, rfl⟩ := strD_of (List.all_eq_true.mp h1 d hd)
        simp only [toPD] at ed
        injection ed with ed
        exact ⟨x, ed.symm⟩
      refine ⟨e, fun p hp q hq => ?_, .inr fun p hp => ?_, fun x hx y hy ek => ?_, h2, h3⟩
      · obtain ⟨x, rfl⟩ := st p hp
        obtain ⟨y, rfl⟩ := st q hq
        simp [PySem.W.alike]
      · obtain ⟨x, rfl⟩ := st p hp
        exact ⟨(fun z => nomatch z), (fun _ z => nomatch z)⟩
      · obtain ⟨a, rfl⟩ := strD_of (List.all_eq_true.mp h1 x hx)
        obtain ⟨b, rfl⟩ := strD_of (List.all_eq_true.mp h1 y hy)
        have : ([.inr a] : List Tk) = [.inr b] := by simpa [keyD, toPD, PySem.W.keyToks, mkS] using ek
        simpa using this
    · refine ⟨e, fun p hp q hq => ?_, h4.imp (fun h4 p hp => ?_) (fun h4 p hp => ?_), map_inj_nodup h5, h2, h3⟩
      · exact List.all_eq_true.mp (List.all_eq_true.mp h6 p hp) q hq
      · obtain ⟨d, hd, ed⟩ := toPDs_back e p hp
        obtain ⟨x, r, rfl⟩ := tupD_of (List.all_eq_true.mp h4 d hd)
        simp only [toPD] at ed
        cases e2 : toPDs (x :: r) with
        | none => rw [e2] at ed; cases ed
        | some qs =>
          obtain ⟨y, ys, _, _, rfl⟩ := toPDs_cons e2
          rw [e2] at ed
          injection ed with ed
          exact ⟨y, ys, ed.symm⟩
      · obtain ⟨d, hd, ed⟩ := toPDs_back e p hp
        have h7 := List.all_eq_true.mp h4 d hd
        cases d <;> first | (cases h7; done) | skip
        rename_i xs
        simp only [toPD] at ed
        cases e2 : toPDs xs with
        | none => rw [e2] at ed; cases ed
        | some qs =>
          rw [e2] at ed
          injection ed with ed
          subst ed
          exact ⟨(fun z => nomatch z), (fun _ z => nomatch z)⟩
end
section
variable {X : Cx} {W : WX} {k : Nat}
def rSortD (X : Cx) : List V → Hp → VK → Prop := fun vs H Q => ∃ (a : Addr) (ds : List Dat) (ws : List V) (fp : List Addr), vs = [V.ref a] ∧ SqL X.K H a ws ∧ RepL (glo X) H ds ws fp ∧ sortOk ds = true ∧
  ∀ ws' p f, RepL (glo X) H (sortK ds) ws' f → (∀ b ∈ f, b ∈ fp) → H p = none → Q (.ref p) (upd H p (.lst ws'))
theorem keyB {b : Bt} {p : PyData} (h : toPD b.1 = some p) : PySem.W.keyToks (encB b) = keyD b.1 := by
  unfold encB keyD
  rw [h]
  rfl
theorem cr_sortD (C : XOk k X) : CallR X (.builtin "sorted") (rSortD X) := by
  intro pins s σ H vs us Q I r h
  obtain ⟨a, ds, ws, fp, rfl, hs, rl, ok, q⟩ := h
  obtain ⟨ps, sc⟩ := sortC_of ok
  obtain ⟨its, rv, pl, _⟩ := I.list hs
  rw [Vals.ref1 r]
  obtain ⟨bs, b1, b2, b3, b4, b5⟩ := bts_of I rl rv sc.e
  have hu := C.u64
  have hbl : bs.length = ds.length := by rw [← b1, List.length_map]
  have hz : sizeLine = 16777216 := by decide
  have hln := sc.ln
  refine PySem.W.sorted_data (β := Bt) (enc := encB) (bs := bs) (R := fun u (b : Bt) => RelV b.2.1 u) (vs := its) pl.isList b4 b5 (by rw [b2]; exact sc.al) (by rw [b2]; exact sc.so) (by omega) (fun b hb => ?_) fun out ol oe => ?_
  · have h1 := depth_in (ps := ps) (p := encB b) (by rw [← b2]; exact List.mem_map.mpr ⟨b, hb, rfl⟩)
    have h2 := sc.dp
    show X.A.units + 2 + (encB b).depth < cLine
    omega
  · generalize hbs : bs.mergeSort (PySem.W.dataLe false encB) = cs at oe
    have pm : cs.Perm bs := by
      rw [← hbs]
      exact List.mergeSort_perm bs _
    have hk : ∀ b ∈ bs, PySem.W.keyToks (encB b) = keyD b.1 := fun b hb => by
      obtain ⟨p, _, e⟩ := toPDs_mem sc.e b.1 (by rw [← b1]; exact List.mem_map.mpr ⟨b, hb, rfl⟩)
      exact keyB e
    have le_eq : ∀ x y : Bt, PySem.W.dataLe false encB x y = !PySem.W.dataLt (encB y) (encB x) := fun x y => rfl
    have srt : cs.Pairwise fun x y => PySem.W.dataLe false encB x y = true := by
      rw [← hbs]
      refine List.pairwise_mergeSort (le := PySem.W.dataLe false encB) (fun x y z h1 h2 => ?_) (fun x y => ?_) bs
      · rw [le_eq] at h1 h2 ⊢
        cases e : PySem.W.dataLt (encB z) (encB x) with
        | false => rfl
        | true =>
          rcases PyProof.Rows.lex_negTrans (O := PyProof.Rows.itemOrd) _ (PySem.W.keyToks (encB y)) _ e with q1 | q1
          · have q2 : PySem.W.dataLt (encB z) (encB y) = true := q1
            rw [q2] at h2
            cases h2
          · have q2 : PySem.W.dataLt (encB y) (encB x) = true := q1
            rw [q2] at h1
            cases h1
      · rw [le_eq, le_eq]
        cases e : PySem.W.dataLt (encB y) (encB x) with
        | false => rfl
        | true =>
          have e2 : PySem.W.dataLt (encB x) (encB y) = false := by
            cases e3 : PySem.W.dataLt (encB x) (encB y) with
            | false => rfl
            | true =>
              have := PyProof.Rows.lex_trans (O := PyProof.Rows.itemOrd) _ _ _ e e3
              rw [PyProof.Rows.lex_irrefl] at this
              cases this
          rw [e2]
          rfl
    have up : Upw (cs.map (·.1)) := by
      refine List.pairwise_map.mpr (List.Pairwise.imp_of_mem (fun {x y} hx hy h1 => ?_) srt)
      rw [le_eq] at h1
      show PyProof.Rows.lexLt PyProof.Rows.itemOrd (keyD y.1) (keyD x.1) = false
      rw [← hk y (pm.mem_iff.mp hy), ← hk x (pm.mem_iff.mp hx)]
      simpa [PySem.W.dataLt] using h1
    have pd : (cs.map (·.1)).Perm ds := by
      rw [← b1]
      exact pm.map _
    have ed : cs.map (·.1) = sortK ds := up_uniq up (sortK_up ds) (pd.trans (sortK_perm ds).symm) fun x hx y hy => sc.un x (pd.mem_iff.mp hx) y (pd.mem_iff.mp hy)
    obtain ⟨f, rf, hf⟩ := reps_of (G := glo X) (H := H) (fp := fp) (bs := cs) fun b hb => b3 b (pm.mem_iff.mp hb)
    rw [ed] at rf
    obtain ⟨ep, he⟩ := PyProof.Rows.sortedAll_at s.heap its out.toArray
    have hlen : (cs.map (·.2.1)).length ≤ sizeLine := by
      rw [List.length_map, pm.length_eq, hbl]
      omega
    exact ⟨.ref _, upd H (s.heap.objs.size + 1) (.lst (cs.map (·.2.1))), I.laid (t' := s.toks) (fun _ _ => PyProof.Rows.sortedAll_old) (Nat.le_succ _) ⟨hlen, out, ep, vals_of_each oe, he⟩, rfl, q _ _ f rf hf (I.hok.fresh (Nat.le_succ _))⟩
theorem fns_sorted : FnS X (rSortD X) gSorted := by
  intro W H0 H F σ ra x fa Q s0 tr g o
  have p := g.rep
  have fin : ∀ (xs : List Dat) (a : Addr) (ws : List V) (f' : List Addr), x = .ref a → SqL X.K H a ws → RepL (glo X) H xs ws f' → (∀ b ∈ f', b ∈ fa) → Out X W H0 H F σ (if sortOk xs then .ok (rNewL (sortK xs) ra.src) else .no) Q → rSortD X [x] H Q := by
    intro xs a ws f' ex hv rr hz o2
    by_cases h : sortOk xs = true
    · rw [if_pos h] at o2
      subst ex
      refine ⟨a, xs, ws, f', rfl, hv, rr, h, fun ws' p f rf hf hp => ?_⟩
      refine o2 _ _ _ (same_new hp) (Gv.newL s0 rf hp fun b hb => ?_)
      exact g.prv.src b (hz b (hf b hb))
    · rw [if_neg h] at o2
      exact o2.elim
  unfold gSorted at o
  cases ed : ra.d <;> simp only [ed] at o <;> first | exact o.elim | skip
  · rename_i xs
    rw [ed] at p
    simp only [Rep] at p
    obtain ⟨a, vs, f, e1, h1, r1, e2⟩ := p
    exact fin xs a vs f e1 (.inl (.inl h1)) r1 (fun b hb => by rw [e2]; exact List.mem_cons_of_mem _ hb) o
  · rename_i xs
    rw [ed] at p
    simp only [Rep] at p
    obtain ⟨a, vs, e1, h1, r1⟩ := p
    refine fin xs a vs fa e1 ?_ r1 (fun _ hb => hb) o
    rcases h1 with ⟨ob, h1⟩ | h1
    · exact .inl (.inr ⟨ob, h1⟩)
    · exact .inr h1
theorem ev_sorted (C : XOk k X) {p pos : Pos} {e : Expr} {f : Sto → Res Rs} (hm : X.mg "sorted" = none) (he : Ev X W e f) (hgl : Gl X "sorted" := by rfl) (hs : starEach [e] X.env = (false, eval e X.env) :: starEach [] X.env := by rfl) : Ev X W (.Call (.Name "sorted" p) [e] [] pos) (fOne gSorted f) :=
  ev_fn1 (cr_sortD C) fns_sorted hgl hm (by decide +kernel) he (by decide) (by decide) hs
def minK (x : Dat) (xs : List Dat) : Dat := xs.foldl (fun a y => if ltK y a then y else a) x
def maxK (x : Dat) (xs : List Dat) : Dat := xs.foldl (fun a y => if ltK a y then y else a) x
def isIntD : Dat → Bool
  | .int _ => true
  | _ => false
/-- texts, numbers or tuples, to be compared -/
def cmpOk (ds : List Dat) : Bool := match toPDs ds with
  | none => false
  | some ps => (ds.all isStrD || ds.all isIntD || (ds.all isTupD && ps.all fun p => ps.all fun q => PySem.W.alike p q)) && decide (PyData.depthAll ps ≤ 20) && decide (ds.length ≤ 1000000) && flatL ds
def gMin (r : Rs) : Res Rs := match r.d with
  | .lst (x :: xs) => if cmpOk (x :: xs) then .ok (rsF (minK x xs)) else .no
  | _ => .no
def gMax (r : Rs) : Res Rs := match r.d with
  | .lst (x :: xs) => if cmpOk (x :: xs) then .ok (rsF (maxK x xs)) else .no
  | _ => .no
end
mutual
theorem toPD_inj : ∀ (a b : Dat) (p : PyData), toPD a = some p → toPD b = some p → a = b
  | .non, b, p, h, h2 => by
    simp only [toPD] at h
    cases h
    cases b <;> simp only [toPD] at h2 <;> first | rfl | cases h2 | (simp [Option.map_eq_some_iff] at h2)
  | .bl x, b, p, h, h2 => by
    simp only [toPD] at h
    cases h
    cases b <;> simp only [toPD] at h2 <;> first | (cases h2; rfl) | cases h2 | (simp [Option.map_eq_some_iff] at h2)
  | .int x, b, p, h, h2 => by
    simp only [toPD] at h
    cases h
    cases b <;> simp only [toPD] at h2 <;> first | (cases h2; rfl) | cases h2 | (simp [Option.map_eq_some_iff] at h2)
  | .str x, b, p, h, h2 => by
    simp only [toPD] at h
    injection h with h
    subst h
    cases b <;> simp only [toPD] at h2 <;> first | (injection h2 with h2; injection h2 with h2; rw [mkS_inj h2]) | cases h2 | (simp [Option.map_eq_some_iff] at h2)
  | .tup xs, b, p, h, h2 => by
    simp only [toPD, Option.map_eq_some_iff] at h
    obtain ⟨ps, e, rfl⟩ := h
    cases b <;> simp only [toPD] at h2 <;> first | cases h2 | (simp only [Option.map_eq_some_iff] at h2)
    · obtain ⟨qs, e2, e3⟩ := h2
      injection e3 with e3
      subst e3
      rw [toPDs_inj xs _ _ e e2]
    · obtain ⟨qs, e2, e3⟩ := h2
      cases e3
  | .lst xs, b, p, h, h2 => by
    simp only [toPD, Option.map_eq_some_iff] at h
    obtain ⟨ps, e, rfl⟩ := h
    cases b <;> simp only [toPD] at h2 <;> first | cases h2 | (simp only [Option.map_eq_some_iff] at h2)
    · obtain ⟨qs, e2, e3⟩ := h2
      cases e3
    · obtain ⟨qs, e2, e3⟩ := h2
      injection e3 with e3
      subst e3
      rw [toPDs_inj xs _ _ e e2]
  | .rol _, _, _, h, _ => by
    simp only [toPD] at h
    cases h
  | .dic _ _, _, _, h, _ => by
    simp only [toPD] at h
    cases h
  | .ins _ _ _, _, _, h, _ => by
    simp only [toPD] at h
    cases h
  | .fn _, _, _, h, _ => by
    simp only [toPD] at h
    cases h
theorem toPDs_inj : ∀ (a b : List Dat) (p : List PyData), toPDs a = some p → toPDs b = some p → a = b
  | [], b, p, h, h2 => by
    simp only [toPDs] at h
    cases h
    cases b with
    | nil => rfl
    | cons y ys =>
      obtain ⟨q, qs, _, _, z⟩ := toPDs_cons h2
      cases z
  | x :: xs, b, p, h, h2 => by
    obtain ⟨q, qs, e1, e2, rfl⟩ := toPDs_cons h
    cases b with
    | nil =>
      simp only [toPDs] at h2
      cases h2
    | cons y ys =>
      obtain ⟨q', qs', e3, e4, z⟩ := toPDs_cons h2
      injection z with z1 z2
      subst z1 z2
      rw [toPD_inj x y _ e1 e3, toPDs_inj xs ys _ e2 e4]
end
theorem ltK_pd {a b : Dat} {p q : PyData} (h1 : toPD a = some p) (h2 : toPD b = some q) : ltK a b = PySem.W.dataLt p q := by
  unfold ltK keyD
  rw [h1, h2]
  rfl
theorem minK_pd : ∀ {xs : List Dat} {ps : List PyData} {x : Dat} {p : PyData}, toPD x = some p → toPDs xs = some ps → toPD (minK x xs) = some (PySem.W.minD p ps)
  | [], ps, x, p, h, h2 => by
    simp only [toPDs] at h2
    cases h2
    exact h
  | y :: xs, ps, x, p, h, h2 => by
    obtain ⟨q, qs, e1, e2, rfl⟩ := toPDs_cons h2
    have ih := fun (z : Dat) (r : PyData) (hz : toPD z = some r) => minK_pd (xs := xs) (ps := qs) (x := z) (p := r) hz e2
    show toPD (minK (if ltK y x then y else x) xs) = some (PySem.W.minD (if PySem.W.dataLt q p then q else p) qs)
    rw [ltK_pd e1 h]
    split
    · exact ih y q e1
    · exact ih x p h
theorem toPDs_at : ∀ {ds : List Dat} {ps : List PyData} {i : Nat} {d : Dat}, toPDs ds = some ps → ds[i]? = some d → ∃ p, ps[i]? = some p ∧ toPD d = some p
  | x :: ds, ps, i, d, h, hi => by
    obtain ⟨q, qs, e1, e2, rfl⟩ := toPDs_cons h
    cases i with
    | zero =>
      cases hi
      exact ⟨q, rfl, e1⟩
    | succ i =>
      obtain ⟨p, hp, ep⟩ := toPDs_at (i := i) (d := d) e2 (by simpa using hi)
      exact ⟨p, by simpa using hp, ep⟩
theorem intD_of {d : Dat} (h : isIntD d = true) : ∃ x, d = .int x := by
  cases d <;> first | exact ⟨_, rfl⟩ | cases h
structure CmpC (ds : List Dat) (ps : List PyData) : Prop where
  e : toPDs ds = some ps
  al : PySem.W.AlikeAll ps
  dp : PyData.depthAll ps ≤ 20
  ln : ds.length ≤ 1000000
  fl : flatL ds = true
theorem cmpC_of {ds : List Dat} (h : cmpOk ds = true) : ∃ ps, CmpC ds ps := by
  unfold cmpOk at h
  cases e : toPDs ds with
  | none =>
    rw [e] at h
    cases h
  | some ps =>
    rw [e] at h
    simp only [Bool.and_eq_true, Bool.or_eq_true, decide_eq_true_eq] at h
    obtain ⟨⟨⟨h1, h2⟩, h3⟩, h4⟩ := h
    refine ⟨ps, e, ?_, h2, h3, h4⟩
    have bk := toPDs_back e
    rcases h1 with (h1 | h1) | ⟨h5, h6⟩
    · have st : ∀ p ∈ ps, ∃ x, p = .str (mkS x) := fun p hp => by
        obtain ⟨d, hd, ed⟩ := bk p hp
        obtain ⟨x, rfl⟩ := strD_of (List.all_eq_true.mp h1 d hd)
        simp only [toPD] at ed
        injection ed with ed
        exact ⟨x, ed.symm⟩
      refine ⟨fun p hp q hq => ?_, fun p hp => ?_⟩
      · obtain ⟨x, rfl⟩ := st p hp
        obtain ⟨y, rfl⟩ := st q hq
        simp [PySem.W.alike]
      · obtain ⟨x, rfl⟩ := st p hp
        exact fun z => nomatch z
    · have st : ∀ p ∈ ps, ∃ x, p = .int x := fun p hp => by
        obtain ⟨d, hd, ed⟩ := bk p hp
        obtain ⟨x, rfl⟩ := intD_of (List.all_eq_true.mp h1 d hd)
        simp only [toPD] at ed
        injection ed with ed
        exact ⟨x, ed.symm⟩
      refine ⟨fun p hp q hq => ?_, fun p hp => ?_⟩
      · obtain ⟨x, rfl⟩ := st p hp
        obtain ⟨y, rfl⟩ := st q hq
        simp [PySem.W.alike]
      · obtain ⟨x, rfl⟩ := st p hp
        exact fun z => nomatch z
    · refine ⟨fun p hp q hq => List.all_eq_true.mp (List.all_eq_true.mp h6 p hp) q hq, fun p hp => ?_⟩
      obtain ⟨d, hd, ed⟩ := bk p hp
      obtain ⟨x, r, rfl⟩ := tupD_of (List.all_eq_true.mp h5 d hd)
      simp only [toPD] at ed
      cases e2 : toPDs (x :: r) with
      | none => rw [e2] at ed; cases ed
      | some qs =>
        rw [e2] at ed
        injection ed with ed
        subst ed
        exact fun z => nomatch z
section
variable {X : Cx} {W : WX} {k : Nat}
def rMinD (X : Cx) (g : Dat → List Dat → Dat) : List V → Hp → VK → Prop := fun vs H Q => ∃ (a : Addr) (x : Dat) (xs : List Dat) (ws : List V) (fp : List Addr), vs = [V.ref a] ∧ SqL X.K H a ws ∧ RepL (glo X) H (x :: xs) ws fp ∧ cmpOk (x :: xs) = true ∧ ∀ v, Rep (glo X) H (g x xs) v [] → Q v H
/-- the value that was found is the datum that is due -/
theorem found_at {pins : List (Addr × Obj)} {σ : L2.St} {H : Hp} {s : Shared} (I : Inv X pins σ H s) {ds : List Dat} {ps : List PyData} {ws : List V} {fp : List Addr} {its : List Value} (c : CmpC ds ps) (rl : RepL (glo X) H ds ws fp) (rv : Vals ws its) {i : Nat} {v : Value} (hi : its[i]? = some v)
    {m : Dat} {q : PyData} (hm : toPD m = some q) (hq : q ∈ ps) {h' : Heap} {bs : List Addr} (hk : ∀ b o, s.heap.get? b = some o → h'.get? b = some o) (hr : Reads h' v q bs) : ∃ w, RelV w v ∧ Rep (glo X) H m w [] := by
  have hl : i < its.length := (List.getElem?_eq_some_iff.mp hi).1
  have hl2 : i < ds.length := by
    rw [← rl.len, rv.length]
    exact hl
  obtain ⟨w, f, hw, rw', hf⟩ := rl.at (List.getElem?_eq_getElem hl2)
  have rel : RelV w v := by
    have : ∀ {ws : List V} {us : List Value}, Vals ws us → ∀ {i : Nat} {w : V} {u : Value}, ws[i]? = some w → us[i]? = some u → RelV w u := by
      intro ws us r
      induction r with
      | nil => intro i w u h _; simp at h
      | cons r1 _ ih =>
        intro i w u h h2
        cases i with
        | zero =>
          cases h
          cases h2
          exact r1
        | succ i => exact ih (by simpa using h) (by simpa using h2)
    exact this rv hw hi
  obtain ⟨p, hp, ep⟩ := toPDs_at c.e (List.getElem?_eq_getElem hl2)
  obtain ⟨as, ra⟩ := Rep.reads I _ _ _ _ _ rw' rel ep
  have ra' := PyProof.Rows.Reads.keeps hk ra
  have hal := c.al.1 p (List.mem_of_getElem? hp) q hq
  have epq : p = q := PySem.W.alike_unique _ _ _ _ _ hal ra' hr
  subst epq
  have ed := toPD_inj _ _ _ ep hm
  have hfl : flat ds[i] = true := by
    have := c.fl
    rw [flatL_all] at this
    exact List.all_eq_true.mp this _ (List.getElem_mem hl2)
  have e0 := Rep.flat _ _ _ rw' hfl
  subst e0
  rw [ed] at rw'
  exact ⟨w, rel, rw'⟩
theorem minD_mem : ∀ (ps : List PyData) (p : PyData), PySem.W.minD p ps ∈ p :: ps
  | [], p => List.mem_cons_self
  | q :: ps, p => by
    show PySem.W.minD (if PySem.W.dataLt q p then q else p) ps ∈ _
    have := minD_mem ps (if PySem.W.dataLt q p then q else p)
    rcases List.mem_cons.mp this with h | h
    · rw [h]
      split <;> simp
    · exact List.mem_cons_of_mem _ (List.mem_cons_of_mem _ h)
theorem cr_minD' (C : XOk k X) : CallR X (.builtin "min") (rMinD X minK) := by
  intro pins s σ H vs us Q I r h
  obtain ⟨a, x, xs, ws, fp, rfl, hs, rl, ok, q⟩ := h
  obtain ⟨ps', c⟩ := cmpC_of ok
  obtain ⟨p, ps, e1, e2, rfl⟩ := toPDs_cons c.e
  obtain ⟨its, rv, pl, _⟩ := I.list hs
  rw [Vals.ref1 r]
  obtain ⟨as, ra⟩ := RepL.reads I _ _ _ _ _ rl rv c.e
  have hu := C.u64
  have hd := c.dp
  refine PySem.W.min_list_data (I.ok.hd C.calm) pl.isList (by simpa using ra) c.al (by show X.A.units + 1 + _ < cLine; omega) fun i v h' tk bs hi hr hk => ?_
  obtain ⟨w, rel, rw'⟩ := found_at I c rl rv (by simpa using hi) (minK_pd e1 e2) (minD_mem ps p) hk hr
  exact ⟨w, H, I.kept hk, rel, q w rw'⟩
theorem fns_min {g : Dat → List Dat → Dat} {gg : Rs → Res Rs} (hg : ∀ r, gg r = match r.d with
    | .lst (x :: xs) => if cmpOk (x :: xs) then .ok (rsF (g x xs)) else .no
    | _ => .no) : FnS X (rMinD X g) gg := by
  intro W H0 H F σ ra x fa Q s0 tr gv o
  have p := gv.rep
  rw [hg] at o
  cases ed : ra.d <;> simp only [ed] at o <;> first | exact o.elim | skip
  rename_i l
  cases l with
  | nil => exact o.elim
  | cons y ys =>
    obtain ⟨a, vs, f', ex, hv, rr, z⟩ := p.seqL (xs := y :: ys) (by rw [ed]; rfl)
    by_cases h : cmpOk (y :: ys) = true
    · simp only [h, if_true] at o
      exact ⟨a, y, ys, vs, f', by rw [ex], hv, rr, h, fun v r => o.flat r⟩
    · simp only [h] at o
      exact o.elim
theorem ev_min (C : XOk k X) {p pos : Pos} {e : Expr} {f : Sto → Res Rs} (hm : X.mg "min" = none) (he : Ev X W e f) (hgl : Gl X "min" := by rfl) (hs : starEach [e] X.env = (false, eval e X.env) :: starEach [] X.env := by rfl) : Ev X W (.Call (.Name "min" p) [e] [] pos) (fOne gMin f) :=
  ev_fn1 (cr_minD' C) (fns_min fun _ => rfl) hgl hm (by decide +kernel) he (by decide) (by decide) hs
end
end PV

namespace PV
open PySem PySem.Spec L2
theorem ltK_str (a b : Tx) : ltK (.str a) (.str b) = decide (a < b) := by
  have e1 : keyD (.str a) = [.inr a] := rfl
  have e2 : keyD (.str b) = [.inr b] := rfl
  unfold ltK
  rw [e1, e2]
  rw [PyProof.Rows.lex_cons]
  show (PyProof.Rows.itemLt (.inr a) (.inr b) || (!PyProof.Rows.itemLt (.inr b) (.inr a) && false)) = _
  rw [Bool.and_false, Bool.or_false]
  rfl
theorem rising_up : ∀ (l : List Str) (p : Str), PyProof.Rows.risingS p l = true → (p :: l).Pairwise fun x y => ¬ y.cps.toList < x.cps.toList
  | [], p, _ => List.pairwise_singleton _ _
  | x :: l, p, h => by
    have h' : (!Spec.ltCps x.cps.toList p.cps.toList && PyProof.Rows.risingS x l) = true := h
    rw [Bool.and_eq_true, PyProof.Rows.ltCps_eq] at h'
    obtain ⟨h1, h2⟩ := h'
    have ih := rising_up l x h2
    have h3 : ¬ x.cps.toList < p.cps.toList := by simpa using h1
    refine List.pairwise_cons.mpr ⟨fun y hy => ?_, ih⟩
    rcases List.mem_cons.mp hy with rfl | hy
    · exact h3
    · intro z
      have h4 := (List.pairwise_cons.mp ih).1 y hy
      exact h3 (List.lt_of_le_of_lt (List.not_lt.mp h4) z)
theorem sorted_up {l : List Str} (h : PyProof.Rows.sortedS l = true) : l.Pairwise fun x y => ¬ y.cps.toList < x.cps.toList := by
  cases l with
  | nil => exact .nil
  | cons p l => exact rising_up l p h
theorem strs_sortK {ys : List Str} {ns : List Tx} (h : PyProof.Rows.sortedS ys = true) (p : ys.Perm (ns.map mkS)) : ys.map (fun y => Dat.str y.cps.toList) = sortK (ns.map .str) := by
  have p2 : (ys.map fun y => Dat.str y.cps.toList).Perm (ns.map .str) := by
    have := p.map fun y => Dat.str y.cps.toList
    rw [List.map_map] at this
    exact this
  refine up_uniq ?_ (sortK_up _) (p2.trans (sortK_perm _).symm) fun x hx y hy e => ?_
  · refine List.pairwise_map.mpr ((sorted_up h).imp fun {a b} hab => ?_)
    rw [ltK_str]
    simpa using hab
  · obtain ⟨a, _, rfl⟩ := List.mem_map.mp hx
    obtain ⟨b, _, rfl⟩ := List.mem_map.mp hy
    have : ([.inr a.cps.toList] : List Tk) = [.inr b.cps.toList] := e
    simpa using this
def nubT (ns : List Tx) : List Tx := ns.foldl (fun l k => if k ∈ l then l else l ++ [k]) []
theorem nub_map : ∀ (ns l : List Tx), (ns.map mkS).foldl (fun l k => if k ∈ l then l else l ++ [k]) (l.map mkS) = (ns.foldl (fun l k => if k ∈ l then l else l ++ [k]) l).map mkS
  | [], l => rfl
  | n :: ns, l => by
    rw [List.map_cons, List.foldl_cons, List.foldl_cons]
    have e : (if mkS n ∈ l.map mkS then l.map mkS else l.map mkS ++ [mkS n]) = (if n ∈ l then l else l ++ [n]).map mkS := by
      by_cases h : n ∈ l
      · rw [if_pos h, if_pos (List.mem_map.mpr ⟨n, h, rfl⟩)]
      · rw [if_neg h, if_neg (fun z => by
          obtain ⟨m, hm, em⟩ := List.mem_map.mp z
          rw [mkS_inj em] at hm
          exact h hm)]
        simp
    rw [e]
    exact nub_map ns _
theorem nubS_map (ns : List Tx) : nubS (ns.map mkS) = (nubT ns).map mkS := nub_map ns []
section
variable {X : Cx} {W : WX} {k : Nat}
/-- f(set(xs)), where f is asked of the new set at p -/
def tSetTx (X : Cx) (ta : TE) (K : List Str → Hp → VK → Prop) : TE := fun σ H Q => ta σ H fun x H1 => ∃ l, ∃ xs : List Str, x = .ref l ∧ SqL X.K H1 l (xs.map V.str) ∧ xs.length ≤ 4000 ∧ K (nubS xs) H1 Q
theorem pe_setTx (C : XOk k X) {a : Expr} {ta : TE} {fn : Str} {id : String} {p p2 q pos : Pos} {K : List Str → Hp → VK → Prop}
    (hf : ∀ (pins : List (Addr × Obj)) (σ : L2.St) (H : Hp) (s : Shared) (b : Addr) (ks : List Str) (Q : VK) (A : Around) (E : Value → Shared → Prop), A.handled = none → Inv X pins σ H s → TxSet X.w s.heap b ks → K ks H Q → wpAny (model X.prog X.w) A (call (.builtin id) [.ref b]) (fun v s' => ∃ x H', Inv X pins σ H' s' ∧ RelV x v ∧ Q x H') E s)
    (hg : Gl X fn) (hm : X.mg fn = none) (hv : bootBuiltins fn = some (.builtin id)) (hg2 : Gl X "set") (hm2 : X.mg "set" = none) (ha : PE X a ta) (hn : fn ≠ "__name__") (hd : (fn == ("__debug__" : Str)) = false)
    (na : starEach [a] X.env = (false, eval a X.env) :: starEach [] X.env := by rfl) : PE X (.Call (.Name fn p) [.Call (.Name "set" p2) [a] [] q] [] pos) (tSetTx X ta K) := by
  refine ⟨fun pins s σ H Q I h => ?_⟩
  refine PyProof.Rows.Call_ (ld_blt I hg hm hv ?_ hn hd)
  refine PyProof.Rows.callWith_builtin1 (PyProof.Rows.args_cons ?_ rfl) rfl rfl
  refine PyProof.Rows.Call_ (ld_blt I hg2 hm2 PyProof.Rows.boot_set ?_)
  refine PyProof.Rows.callWith_type1 (PyProof.Rows.args_cons (thn (ha.run pins s σ H _ I h) fun v s1 ⟨x, H1, I1, r1, q1⟩ => PyProof.Rows.args_nil ?_) na) na rfl
  obtain ⟨l, xs, rfl, hq, h1, q1⟩ := q1
  cases r1
  obtain ⟨its, r, pl, hz⟩ := I1.list hq
  refine call_setTx (I1.ok.hd C.calm) pl.isList (xs := xs) (by simpa using r.strs) (by unfold scanBound; omega) fun h' tk hS hk => ?_
  refine PyProof.Rows.args_nil ?_
  exact hf pins σ H1 { s1 with heap := h', toks := tk } _ _ Q _ _ (I1.ok.hd C.calm) (I1.kept hk) hS q1
theorem pe_lenSet (C : XOk k X) {a : Expr} {ta : TE} {p p2 q pos : Pos} (hg : Gl X "len") (hm : X.mg "len" = none) (hg2 : Gl X "set") (hm2 : X.mg "set" = none) (ha : PE X a ta)
    (na : starEach [a] X.env = (false, eval a X.env) :: starEach [] X.env := by rfl) : PE X (.Call (.Name "len" p) [.Call (.Name "set" p2) [a] [] q] [] pos) (tSetTx X ta fun ks H Q => Q (.int ks.length) H) :=
  pe_setTx C (fun pins σ H s b ks Q A E hh I hS hq => call_lenTx hS ⟨.int ks.length, H, I.tok _, ⟨_, rfl⟩, hq⟩) hg hm PySem.boot_len hg2 hm2 ha (by decide) (by decide) na
theorem pe_sortSet (C : XOk k X) {a : Expr} {ta : TE} {p p2 q pos : Pos} (hg : Gl X "sorted") (hm : X.mg "sorted" = none) (hg2 : Gl X "set") (hm2 : X.mg "set" = none) (ha : PE X a ta)
    (na : starEach [a] X.env = (false, eval a X.env) :: starEach [] X.env := by rfl) : PE X (.Call (.Name "sorted" p) [.Call (.Name "set" p2) [a] [] q] [] pos)
      (tSetTx X ta fun ks H Q => ks.length ≤ 1000000 ∧ ∀ ys b, ys.Perm ks → PyProof.Rows.sortedS ys = true → H b = none → Q (.ref b) (upd H b (.lst (ys.map V.str)))) :=
  pe_setTx C (fun pins σ H s b ks Q A E hh I hS hq => by
    refine sorted_setTx hS hh fun s' p out c ys kk g o hp hg hi pm st => ?_
    have hlen : (ys.map V.str).length ≤ sizeLine := by
      rw [List.length_map, pm.length_eq]
      have : sizeLine = 16777216 := by decide
      have := hq.1
      omega
    have hn : H p = none := I.hok.fresh hp
    have J : Inv X pins σ (upd H p (.lst (ys.map V.str))) { s with heap := s'.heap, gens := s'.gens, drawn := s'.drawn, toks := s'.toks } :=
      I.call (ch := []) (Un.laid kk hp hn) (I.hok.laid kk hp ⟨hlen, out.toList, c, vals_of_strs hi, hg⟩) (by rw [g]; exact I.bare) (fun _ z => nomatch z)
    have e : s' = { s with heap := s'.heap, gens := s'.gens, drawn := s'.drawn, toks := s'.toks } := by
      cases s'
      cases s
      cases o
      rfl
    rw [e]
    exact ⟨.ref p, _, J, rfl, hq.2 ys p pm st hn⟩) hg hm PyProof.Rows.boot_sorted hg2 hm2 ha (by decide) (by decide) na
def gLenSet (r : Rs) : Res Rs := match (seqOf r.d).bind strsOf with
  | some ns => if ns.length ≤ 4000 then .ok (rsF (.int (nubT ns).length)) else .no
  | none => .no
def gSortSet (r : Rs) : Res Rs := match (seqOf r.d).bind strsOf with
  | some ns => if ns.length ≤ 4000 then .ok (rNewL (sortK ((nubT ns).map .str)) []) else .no
  | none => .no
theorem set_arg {f : Sto → Res Rs} {g : Rs → Res Rs} {h : List Tx → Res Rs} {K : List Str → Hp → VK → Prop} (hg : ∀ r, g r = match (seqOf r.d).bind strsOf with
    | some ns => if ns.length ≤ 4000 then h ns else .no
    | none => .no) (hK : ∀ (ns : List Tx) (H0 H : Hp) (F : Fp) (σ : L2.St) (Q : VK), Same H0 H → ns.length ≤ 4000 → Out X W H0 H F σ (h ns) Q → K (nubS (ns.map mkS)) H Q) {σ : L2.St} {H : Hp} {Q : VK} (hw : tEv X W (fOne g f) σ H Q) : tSetTx X (tEv X W f) K σ H Q := by
  obtain ⟨E, F, re, o⟩ := hw
  refine seqE re (Same.refl H) o fun ra x H1 f1 e1 s1 g1 o1 => ?_
  rw [hg] at o1
  cases e2 : seqOf ra.d with
  | none =>
    rw [e2] at o1
    exact o1.elim
  | some xs =>
    rw [e2] at o1
    obtain ⟨a, vs, f', ex, hv, rr, z⟩ := g1.rep.seqL (seqOf_vw e2)
    cases e3 : strsOf xs with
    | none =>
      simp only [Option.bind_some, e3] at o1
      exact o1.elim
    | some ns =>
      simp only [Option.bind_some, e3] at o1
      by_cases hl : ns.length ≤ 4000
      · rw [if_pos hl] at o1
        obtain ⟨q1, _⟩ := strsOf_reps rr e3
        rw [q1] at hv
        exact ⟨a, ns.map mkS, ex, hv, by simpa using hl, hK ns H H1 F σ Q s1 hl o1⟩
      · rw [if_neg hl] at o1
        exact o1.elim
theorem nubT_len (ns : List Tx) : (nubT ns).length ≤ ns.length := by
  have h := nub_len (ns.map mkS) []
  have e : (nubS (ns.map mkS)).length = (nubT ns).length := by rw [nubS_map, List.length_map]
  unfold nubS at e
  simp at h
  omega
theorem ev_lenSet (C : XOk k X) {a : Expr} {f : Sto → Res Rs} {p p2 q pos : Pos} (hm : X.mg "len" = none) (hm2 : X.mg "set" = none) (ha : Ev X W a f) (hg : Gl X "len" := by rfl) (hg2 : Gl X "set" := by rfl)
    (na : starEach [a] X.env = (false, eval a X.env) :: starEach [] X.env := by rfl) : Ev X W (.Call (.Name "len" p) [.Call (.Name "set" p2) [a] [] q] [] pos) (fOne gLenSet f) := by
  refine ⟨weakE (pe_lenSet C hg hm hg2 hm2 ha.pe na) fun σ H Q h => set_arg (g := gLenSet) (fun _ => rfl) (fun ns H0 H F σ Q s hl o => ?_) h⟩
  rw [nubS_map, List.length_map]
  exact o.flat mk_int
theorem ev_sortSet (C : XOk k X) {a : Expr} {f : Sto → Res Rs} {p p2 q pos : Pos} (hm : X.mg "sorted" = none) (hm2 : X.mg "set" = none) (ha : Ev X W a f) (hg : Gl X "sorted" := by rfl) (hg2 : Gl X "set" := by rfl)
    (na : starEach [a] X.env = (false, eval a X.env) :: starEach [] X.env := by rfl) : Ev X W (.Call (.Name "sorted" p) [.Call (.Name "set" p2) [a] [] q] [] pos) (fOne gSortSet f) := by
  refine ⟨weakE (pe_sortSet C hg hm hg2 hm2 ha.pe na) fun σ H Q h => set_arg (g := gSortSet) (fun _ => rfl) (fun ns H0 H F σ Q s hl o => ?_) h⟩
  have hn := nubT_len ns
  rw [nubS_map]
  refine ⟨by rw [List.length_map]; omega, fun ys b pm st hb => ?_⟩
  have e := strs_sortK st pm
  have rr : RepL (glo X) H (sortK ((nubT ns).map .str)) (ys.map V.str) [] := by
    rw [← e]
    have z := strs_reps (G := glo X) (H := H) (ys.map fun y => y.cps.toList)
    rw [List.map_map, List.map_map, List.map_map] at z
    have e2 : (V.str ∘ mkS) ∘ (fun y : Str => y.cps.toList) = V.str := funext fun y => by
      show V.str (mkS y.cps.toList) = V.str y
      rw [mkS_tl]
    have e3 : (Dat.str ∘ fun y : Str => y.cps.toList) = fun y => Dat.str y.cps.toList := rfl
    rw [e2, e3] at z
    exact z
  exact o _ _ _ (same_new hb) (Gv.newL s rr hb fun _ z => nomatch z)
end
end PV

namespace PV
open PySem PySem.Spec L2
theorem root_of {G : Glo} {B : Fx} {E : Sto} {σ : L2.St} {H : Hp} {F : Fp} {i : Nat} {l : Addr} {f : List Addr} (r : R G B E σ H F) (hk : (kd E i).w = true) (hF : F i = l :: f) : l ∈ Ow E F i ∧ l ∉ f := by
  unfold Ow
  rw [hF]
  cases e : kd E i with
  | shr =>
    rw [e] at hk
    cases hk
  | lk =>
    rw [e] at hk
    cases hk
  | deep =>
    have := r.nod i e
    rw [hF] at this
    exact ⟨List.mem_cons_self, (List.nodup_cons.mp this).1⟩
  | root =>
    obtain ⟨a, g, h1, h2⟩ := r.rot i e
    rw [hF] at h1
    injection h1 with h3 h4
    subst h3 h4
    exact ⟨by simp [owK], h2⟩
/-- the object of slot i is written: o at l; what is laid in it came from a hand -/
theorem R.write {G : Glo} {B : Fx} {E : Sto} {σ : L2.St} {H : Hp} {F : Fp} {i : Nat} {l : Addr} {f f' fp : List Addr} {d d2 d' : Dat} {k0 k2 : Kd} {v2 v : V} {o : HO} (r : R G B E σ H F) (hs : slot E i = some (d, k0)) (hk : k0.w = true) (hF : F i = l :: f) (hv : σ[i]? = some (some v)) (wo : wrO o = true)
    (hd : Hand G B E F H d2 k2 v2 fp) (hsub : ∀ a ∈ f', a ∈ f ∨ a ∈ fp) (hn : (f ++ fp).Nodup → f'.Nodup) (hrep : Rep G (upd H l o) d' v (l :: f')) :
    R G B (E.set i (some (d', if k0 = .deep ∧ k2 = .deep then .deep else .root))) σ (upd H l o) (fun j => if j = i then l :: f' else F j) := by
  have ki : kd E i = k0 := by
    unfold kd
    rw [hs]
  have hi : i < E.length := slot_lt hs
  obtain ⟨lo, lf⟩ := root_of r (by rw [ki]; exact hk) hF
  have lp : l ∉ fp := hd.sp2 i l (ow_sw lo)
  have lw := r.own i l lo
  have ln : ∀ j, j ≠ i → l ∉ F j := fun j hj => r.sep i j (fun e => hj e.symm) l (ow_sw lo)
  have lf' : l ∉ f' := fun z => (hsub l z).elim lf lp
  have kp := Kp.upd (o := o) lw.1
  have wr : ∀ a, a ≠ l → Wr H a → Wr (upd H l o) a := fun a ha ⟨u, e, w⟩ => ⟨u, by rw [upd_ne ha]; exact e, w⟩
  have wl : Wr (upd H l o) l := ⟨o, upd_same, wo⟩
  have kk : ∀ j, kd (E.set i (some (d', if k0 = .deep ∧ k2 = .deep then .deep else .root))) j = if j = i then (if k0 = .deep ∧ k2 = .deep then .deep else .root) else kd E j := fun j => kd_set hi
  have own_i : ∀ a ∈ owK (if k0 = .deep ∧ k2 = .deep then Kd.deep else .root) (l :: f'), a = l ∨ (k0 = .deep ∧ a ∈ f) ∨ (k2 = .deep ∧ a ∈ fp) := by
    intro a ha
    by_cases hh : k0 = .deep ∧ k2 = .deep
    · rw [if_pos hh] at ha
      rcases List.mem_cons.mp ha with q | q
      · exact .inl q
      · rcases hsub a q with q | q
        · exact .inr (.inl ⟨hh.1, q⟩)
        · exact .inr (.inr ⟨hh.2, q⟩)
    · rw [if_neg hh] at ha
      left
      simpa [owK] using ha
  have fo : k0 = .deep → ∀ a ∈ f, a ∈ Ow E F i := fun e a ha => by
    unfold Ow
    rw [ki, e, hF]
    exact List.mem_cons_of_mem _ ha
  have po : k2 = .deep → ∀ a ∈ fp, a ∈ owK k2 fp := fun e a ha => by
    rw [e]
    exact ha
  have ow : ∀ j, Ow (E.set i (some (d', if k0 = .deep ∧ k2 = .deep then .deep else .root))) (fun j => if j = i then l :: f' else F j) j = if j = i then owK (if k0 = .deep ∧ k2 = .deep then Kd.deep else .root) (l :: f') else Ow E F j := by
    intro j
    unfold Ow
    rw [kk]
    by_cases hj : j = i <;> simp [hj]
  have sw : ∀ j, Sw (E.set i (some (d', if k0 = .deep ∧ k2 = .deep then .deep else .root))) (fun j => if j = i then l :: f' else F j) j = if j = i then owK (if k0 = .deep ∧ k2 = .deep then Kd.deep else .root) (l :: f') else Sw E F j := by
    intro j
    unfold Sw
    rw [kk]
    by_cases hj : j = i
    · simp only [hj, if_true]
      refine sw_ow ?_
      split <;> exact fun z => nomatch z
    · simp [hj]
  refine ⟨⟨by rw [List.length_set]; exact r.rep.len, fun j dj kj e => ?_, fun j e => ?_⟩, fun j a ha => ?_, fun j e => ?_, fun j e => ?_, fun j m n a ha => ?_, r.pro, fun t ht => ⟨(r.pro t ht).keep [l] H _ (r.tmp t ht).1 (Kf.upd (o := o) lw.1) fun a ha => ?_, fun j a ha => ?_⟩, fun j a ha => ?_, fun b u e => ?_, fun j e => ?_⟩
  · rw [slot_set hi] at e
    by_cases hj : j = i
    · rw [if_pos hj] at e
      injection e with e
      injection e with e1 e2
      subst hj e1
      refine ⟨v, hv, ?_⟩
      simp only [if_true]
      exact hrep
    · rw [if_neg hj] at e
      obtain ⟨w, h1, h2⟩ := r.rep.rep j dj kj e
      refine ⟨w, h1, ?_⟩
      simp only [hj, if_false]
      exact Rep.kp kp _ _ _ h2 fun a ha z => ln j hj (by
        rw [List.mem_singleton] at z
        rw [← z]
        exact ha)
  · rw [slot_set hi] at e
    by_cases hj : j = i
    · rw [if_pos hj] at e
      cases e
    · rw [if_neg hj] at e
      simp only [hj, if_false]
      exact r.rep.emp j e
  · rw [ow] at ha
    by_cases hj : j = i
    · rw [if_pos hj] at ha
      rcases own_i a ha with q | ⟨e, q⟩ | ⟨e, q⟩
      · subst q
        exact ⟨wl, lw.2⟩
      · have := r.own i a (fo e a q)
        exact ⟨wr a (fun z => lf (z ▸ q)) this.1, this.2⟩
      · have := hd.own a (po e a q)
        exact ⟨wr a (fun z => lp (z ▸ q)) this.1, this.2⟩
    · rw [if_neg hj] at ha
      have := r.own j a ha
      exact ⟨wr a (fun z => ln j hj (z ▸ owK_sub a ha)) this.1, this.2⟩
  · rw [kk] at e
    by_cases hj : j = i
    · rw [if_pos hj] at e
      by_cases hh : k0 = .deep ∧ k2 = .deep
      · simp only [hj, if_true]
        refine List.nodup_cons.mpr ⟨lf', hn ?_⟩
        have n1 := r.nod i (by rw [ki]; exact hh.1)
        rw [hF] at n1
        refine List.nodup_append.mpr ⟨(List.nodup_cons.mp n1).2, hd.nod hh.2, fun a ha b hb z => ?_⟩
        subst z
        exact hd.sp2 i a (ow_sw (fo hh.1 a ha)) hb
      · rw [if_neg hh] at e
        cases e
    · rw [if_neg hj] at e
      simp only [hj, if_false]
      exact r.nod j e
  · rw [kk] at e
    by_cases hj : j = i
    · simp only [hj, if_true]
      exact ⟨l, f', rfl, lf'⟩
    · rw [if_neg hj] at e
      simp only [hj, if_false]
      exact r.rot j e
  · rw [sw] at ha
    by_cases hj : j = i
    · rw [if_pos hj] at ha
      have hm : m ≠ i := fun e => n (hj.trans e.symm)
      simp only [hm, if_false]
      rcases own_i a ha with q | ⟨e, q⟩ | ⟨e, q⟩
      · subst q
        exact ln m hm
      · exact r.sep i m (fun e => hm e.symm) a (ow_sw (fo e a q))
      · exact hd.sp1 a (po e a q) m
    · rw [if_neg hj] at ha
      by_cases hm : m = i
      · simp only [hm, if_true]
        intro z
        have h1 := r.sep j i hj a ha
        rw [hF] at h1
        rcases List.mem_cons.mp z with q | q
        · exact h1 (by rw [q]; exact List.mem_cons_self)
        · rcases hsub a q with q | q
          · exact h1 (List.mem_cons_of_mem _ q)
          · exact hd.sp2 j a ha q
      · simp only [hm, if_false]
        exact r.sep j m n a ha
  · intro z
    rw [List.mem_singleton] at z
    subst z
    exact (r.tmp t ht).2 i a lo ha
  · rw [ow] at ha
    by_cases hj : j = i
    · rw [if_pos hj] at ha
      rcases own_i a ha with q | ⟨e, q⟩ | ⟨e, q⟩
      · subst q
        exact (r.tmp t ht).2 i a lo
      · exact (r.tmp t ht).2 i a (fo e a q)
      · exact hd.tmp t ht a (po e a q)
    · rw [if_neg hj] at ha
      exact (r.tmp t ht).2 j a ha
  · by_cases hj : j = i
    · simp only [hj, if_true] at ha
      rcases List.mem_cons.mp ha with q | q
      · subst q
        exact .inl lw.2
      · rcases hsub a q with q | q
        · exact r.prv i a (by rw [hF]; exact List.mem_cons_of_mem _ q)
        · exact hd.prv a q
    · simp only [hj, if_false] at ha
      exact r.prv j a ha
  · have hb : b ≠ l := fun z => by
      subst z
      rw [lw.2] at e
      cases e
    rw [upd_ne hb]
    exact r.frm b u e
  · rw [kk] at e
    by_cases hj : j = i
    · rw [if_pos hj] at e
      split at e <;> cases e
    · rw [if_neg hj] at e
      obtain ⟨u, q1, q2⟩ := r.lk j e
      refine ⟨u, ?_, q2⟩
      simp only [hj, if_false]
      exact q1
section
variable {X : Cx} {W : WX} {k : Nat}
theorem p_var (i : Nat) {x : Str} {pos : Pos} (hN : X.N[i]? = some x := by rfl) (hv : Vis X.env.scope x := by first | exact Or.inl rfl | exact Or.inr (Or.inl rfl) | exact Or.inr (Or.inr rfl)) (hd : (x == ("__debug__" : Str)) = false := by decide)
    (hcd : (x == ("__classdict__" : Str)) = false := by decide) : PE X (.Name x pos) (tVar i) := pe_var (i := i) hN hv hd hcd
/-- nothing in hand -/
theorem Hand.none {G : Glo} {B : Fx} {E : Sto} {F : Fp} {H : Hp} : Hand G B E F H .non .deep .non [] :=
  ⟨by simp [Rep], (fun _ z => nomatch z), fun _ => .nil, (fun z => nomatch z), (fun _ z => nomatch z), (fun _ _ _ z => nomatch z), (fun _ _ _ z => nomatch z), (fun _ z => nomatch z), (fun z => nomatch z)⟩
/-- what a write makes of the kinds -/
def kMix (k0 k2 : Kd) : Kd := if k0 = .deep ∧ k2 = .deep then .deep else .root
/-- slot i, written by g with a value in hand -/
def sMut1 (i : Nat) (g : Dat → Dat → Option Dat) (E : Sto) (r : Rs) : Res Fl := match slot (PV.take false r E).1 i with
  | some (d0, k0) => if k0.w = false then .no else match g d0 r.d with
    | some d' => .ok (.nx ((PV.take false r E).1.set i (some (d', kMix k0 (PV.take false r E).2))))
    | none => .no
  | none => .no
def lstAt (o : Option (Dat × Kd)) : Bool := match o with
  | some (.lst _, _) => true
  | _ => false
def dicAt (o : Option (Dat × Kd)) : Bool := match o with
  | some (.dic _ _, _) => true
  | _ => false
def sMut (c : Option (Dat × Kd) → Bool) (i : Nat) (g : Dat → Dat → Option Dat) (f : Sto → Res Rs) : Sto → Res Fl := fun E => if c (slot E i) then (f E).bind (sMut1 i g E) else .no
theorem lstAt_of {o : Option (Dat × Kd)} (h : lstAt o = true) : ∃ xs k, o = some (.lst xs, k) := by
  unfold lstAt at h
  split at h
  · exact ⟨_, _, rfl⟩
  · cases h
theorem dicAt_of {o : Option (Dat × Kd)} (h : dicAt o = true) : ∃ ks ds k, o = some (.dic ks ds, k) := by
  unfold dicAt at h
  split at h
  · exact ⟨_, _, _, rfl⟩
  · cases h
/-- a list of a slot -/
theorem lst_slot {G : Glo} {H : Hp} {E : Sto} {σ : L2.St} {F : Fp} {i : Nat} {xs : List Dat} {k0 : Kd} (r : RepE G H E σ F) (h : slot E i = some (.lst xs, k0)) : ∃ l vs f, σ[i]? = some (some (.ref l)) ∧ F i = l :: f ∧ H l = some (.lst vs) ∧ RepL G H xs vs f := by
  obtain ⟨v, h1, h2⟩ := r.rep i _ _ h
  simp only [Rep] at h2
  obtain ⟨a, vs, f, rfl, q, rl, e⟩ := h2
  exact ⟨a, vs, f, h1, e, q, rl⟩
theorem dic_slot {G : Glo} {B : Fx} {H : Hp} {E : Sto} {σ : L2.St} {F : Fp} {i : Nat} {ks : List Tx} {ds : List Dat} {k0 : Kd} (r : R G B E σ H F) (h : slot E i = some (.dic ks ds, k0)) (hk : k0.w = true) :
    ∃ l vs f, σ[i]? = some (some (.ref l)) ∧ F i = l :: f ∧ H l = some (.dK (kvOf ks vs)) ∧ ks.length = vs.length ∧ RepL G H ds vs f := by
  obtain ⟨v, h1, h2⟩ := r.rep.rep i _ _ h
  simp only [Rep] at h2
  obtain ⟨a, vs, f, rfl, q, hl, rl, e⟩ := h2
  have ki : kd E i = k0 := by
    unfold kd
    rw [h]
  have ho := (root_of r (by rw [ki]; exact hk) e).1
  exact ⟨a, vs, f, h1, e, (r.own i a ho).1.dic q, hl, rl⟩
/-- the write itself -/
theorem mut_run {i : Nat} {g : Dat → Dat → Option Dat} {B : Fx} {E : Sto} {F : Fp} {σ : L2.St} {H H1 : Hp} {D : Ends} {rs : Rs} {v : V} {fp : List Addr} (r : R (glo X) B E σ H F) (s1 : Same H H1) (gv : Gv (glo X) H F rs v H1 fp) (o1 : OutS X W B D (sMut1 i g E rs)) :
    ∃ (d0 : Dat) (k0 : Kd) (d' : Dat) (E1 : Sto) (F1 : Fp) (k2 : Kd), slot E1 i = some (d0, k0) ∧ k0.w = true ∧ g d0 rs.d = some d' ∧ R (glo X) B E1 σ H1 F1 ∧ Hand (glo X) B E1 F1 H1 rs.d k2 v fp ∧
      ∀ (w : V) (l : Addr) (f f' : List Addr) (ob : HO), F1 i = l :: f → σ[i]? = some (some w) → wrO ob = true → (∀ a ∈ f', a ∈ f ∨ a ∈ fp) → ((f ++ fp).Nodup → f'.Nodup) → (l ∉ f → l ∉ fp → Rep (glo X) (upd H1 l ob) d' w (l :: f')) → D.nx σ (upd H1 l ob) := by
  obtain ⟨F1, r1, h1⟩ := r.take false s1 gv
  unfold sMut1 at o1
  cases e : slot (PV.take false rs E).1 i with
  | none =>
    simp only [e] at o1
    exact o1.elim
  | some x =>
    obtain ⟨d0, k0⟩ := x
    simp only [e] at o1
    by_cases hk : k0.w = false
    · rw [if_pos hk] at o1
      exact o1.elim
    · rw [if_neg hk] at o1
      have hk : k0.w = true := by simpa using hk
      cases eg : g d0 rs.d with
      | none =>
        simp only [eg] at o1
        exact o1.elim
      | some d' =>
        simp only [eg] at o1
        refine ⟨d0, k0, d', _, F1, _, e, hk, eg, r1, h1, fun w l f f' ob hF hv wo hsub hn hrep => ?_⟩
        have ki : kd (PV.take false rs E).1 i = k0 := by
          unfold kd
          rw [e]
        obtain ⟨lo, lf⟩ := root_of r1 (by rw [ki]; exact hk) hF
        exact o1 σ _ _ (r1.write e hk hF hv wo h1 hsub hn (hrep lf (h1.sp2 i l (ow_sw lo))))
def gApp (a b : Dat) : Option Dat := match a with
  | .lst xs => if xs.length ≤ 1000000 then some (.lst (xs ++ [b])) else none
  | _ => none
theorem not_in {l : Addr} {f : List Addr} (h : l ∉ f) : ∀ a ∈ f, a ∉ [l] := fun a ha z => h (by
  rw [List.mem_singleton] at z
  rw [← z]
  exact ha)
theorem size_lt {n : Nat} (h : n ≤ 1000000) : n < sizeLine := by
  have : sizeLine = 16777216 := by decide
  omega
section
variable {o e : Expr} {i : Nat} {f : Sto → Res Rs} {apos cpos pos : Pos}
theorem es_append (ho : PE X o (tVar i)) (he : Ev X W e f) (hbase : attributeBase o "append" X.env (eval o X.env) = eval o X.env := by rfl)
    (hfew : ((backTo cpos (starEach [e] X.env)).all (fun x => !x.1) && (backToKw cpos (keywordEach [] X.env)).all (fun x => x.1.isSome) && decide (([e] : List Expr).length + ([] : List Keyword).length + (if ([] : List Keyword).isEmpty then 0 else 1) < 30)) = true := by rfl)
    (hline : (apos.endLine == cpos.line) = true := by rfl) (hs : starEach [e] X.env = (false, eval e X.env) :: starEach [] X.env := by rfl) (hplain : (backTo cpos (starEach [] X.env)).any (·.1) = false := by rfl) (hw : swapsWith (.Call (.Attribute o "append" apos) [e] [] cpos) none pos.line X.env = pure false := by rfl) :
    Es X W (.Expr (.Call (.Attribute o "append" apos) [e] [] cpos) pos) (sMut lstAt i gApp f) := by
  refine ⟨weakS (ps_expr (pe_bm PySem.F.plainAttrs_list PySem.F.slot_list_append PySem.F.type_list_append mt_append ho (pa_cons he.pe pa_nil hs) hbase hfew hline hs hplain) hw) fun D σ H ⟨B, E, F, r, o⟩ => ?_⟩
  unfold sMut at o
  have hc : lstAt (slot E i) = true := Classical.byContradiction fun hc => by
    rw [if_neg hc] at o
    exact o.elim
  rw [if_pos hc] at o
  obtain ⟨xs0, k00, e0⟩ := lstAt_of hc
  obtain ⟨l0, vs0, f0, q1, q2, q3, q4⟩ := lst_slot r.rep e0
  refine ⟨.ref l0, q1, .inl ⟨rfl, vs0, .inl (.inl q3)⟩, ?_⟩
  refine seqS r o fun rs v H1 fp e1 s1 g1 o1 => ?_
  obtain ⟨d0, k0, d', E1, F1, k2, z1, z2, z3, r1, h1, fin⟩ := mut_run r s1 g1 o1
  unfold gApp at z3
  cases d0 <;> simp only at z3 <;> first | cases z3 | skip
  rename_i xs
  have hl : xs.length ≤ 1000000 := Classical.byContradiction fun hl => by
    rw [if_neg hl] at z3
    cases z3
  rw [if_pos hl] at z3
  injection z3 with z3
  subst z3
  obtain ⟨l, vs, f', y1, y2, y3, y4⟩ := lst_slot r1.rep z1
  have el : l = l0 := by
    rw [q1] at y1
    injection y1 with y1
    injection y1 with y1
    injection y1 with y1
    exact y1.symm
  subst el
  refine ⟨l, vs, v, rfl, rfl, y3, by rw [y4.len]; exact size_lt hl, ?_⟩
  refine fin (.ref l) l f' (f' ++ fp) _ y2 y1 rfl (fun a ha => List.mem_append.mp ha) id fun n1 n2 => ?_
  have kp := Kp.upd (o := HO.lst (vs ++ [v])) (H := H1) (a := l) ⟨_, y3, rfl⟩
  simp only [Rep]
  exact ⟨l, vs ++ [v], f' ++ fp, rfl, upd_same, (RepL.kp kp _ _ _ y4 (not_in n1)).app (RepL.one (Rep.kp kp _ _ _ h1.rep (not_in n2))), rfl⟩
end
end
end PV

namespace PV
open PySem PySem.Spec L2
section
variable {X : Cx} {W : WX} {k : Nat} {o e : Expr} {i : Nat} {f : Sto → Res Rs} {apos cpos pos : Pos}
def sExt1 (i : Nat) (E : Sto) (r : Rs) : Res Fl := match slot E i, r.d with
  | some (.lst xs, k0), .lst zs => if k0.w = false then .no else if flatL zs && decide (xs.length + zs.length ≤ 1000000) then .ok (.nx (E.set i (some (.lst (xs ++ zs), kMix k0 .deep)))) else .no
  | _, _ => .no
def sExt (i : Nat) (f : Sto → Res Rs) : Sto → Res Fl := fun E => if lstAt (slot E i) then (f E).bind (sExt1 i E) else .no
theorem flat_reps {G : Glo} {H : Hp} : ∀ {ds : List Dat} {vs : List V} {fp : List Addr}, RepL G H ds vs fp → flatL ds = true → fp = []
  | [], vs, fp, r, _ => by
    simp only [RepL] at r
    exact r.2
  | d :: ds, vs, fp, r, h => by
    simp only [RepL] at r
    obtain ⟨v, vs', f, f', rfl, rfl, r1, r2⟩ := r
    simp only [flatL, Bool.and_eq_true] at h
    rw [Rep.flat _ _ _ r1 h.1, flat_reps r2 h.2]
    rfl
theorem es_extend (ho : PE X o (tVar i)) (he : Ev X W e f) (hbase : attributeBase o "extend" X.env (eval o X.env) = eval o X.env := by rfl)
    (hfew : ((backTo cpos (starEach [e] X.env)).all (fun x => !x.1) && (backToKw cpos (keywordEach [] X.env)).all (fun x => x.1.isSome) && decide (([e] : List Expr).length + ([] : List Keyword).length + (if ([] : List Keyword).isEmpty then 0 else 1) < 30)) = true := by rfl)
    (hline : (apos.endLine == cpos.line) = true := by rfl) (hs : starEach [e] X.env = (false, eval e X.env) :: starEach [] X.env := by rfl) (hplain : (backTo cpos (starEach [] X.env)).any (·.1) = false := by rfl) (hw : swapsWith (.Call (.Attribute o "extend" apos) [e] [] cpos) none pos.line X.env = pure false := by rfl) :
    Es X W (.Expr (.Call (.Attribute o "extend" apos) [e] [] cpos) pos) (sExt i f) := by
  refine ⟨weakS (ps_expr (pe_bm PySem.F.plainAttrs_list PySem.F.slot_list_extend PySem.F.type_list_extend mt_extend ho (pa_cons he.pe pa_nil hs) hbase hfew hline hs hplain) hw) fun D σ H ⟨B, E, F, r, o⟩ => ?_⟩
  unfold sExt at o
  have hc : lstAt (slot E i) = true := Classical.byContradiction fun hc => by
    rw [if_neg hc] at o
    exact o.elim
  rw [if_pos hc] at o
  obtain ⟨xs, k0, e0⟩ := lstAt_of hc
  obtain ⟨l, vs0, f0, q1, q2, q3, q4⟩ := lst_slot r.rep e0
  refine ⟨.ref l, q1, .inl ⟨rfl, vs0, .inl (.inl q3)⟩, ?_⟩
  refine seqS r o fun rs v H1 fp e1 s1 g1 o1 => ?_
  have p1 := g1.rep
  unfold sExt1 at o1
  simp only [e0] at o1
  cases ed : rs.d <;> simp only [ed] at o1 <;> first | exact o1.elim | skip
  rename_i zs
  by_cases hk : k0.w = false
  · rw [if_pos hk] at o1
    exact o1.elim
  rw [if_neg hk] at o1
  have hk : k0.w = true := by simpa using hk
  have hl : (flatL zs && decide (xs.length + zs.length ≤ 1000000)) = true := Classical.byContradiction fun hl => by
    rw [if_neg hl] at o1
    exact o1.elim
  rw [if_pos hl] at o1
  simp only [Bool.and_eq_true, decide_eq_true_eq] at hl
  rw [ed] at p1
  simp only [Rep] at p1
  obtain ⟨b, vs2, f2, rfl, z3, z4, _⟩ := p1
  have hf2 := flat_reps z4 hl.1
  subst hf2
  have r1 := r.same s1
  have y3 := s1 _ _ q3
  have y4 := q4.same s1
  refine ⟨l, b, vs0, vs2, rfl, rfl, y3, z3, (by
    rw [y4.len, z4.len]
    have : sizeLine = 16777216 := by decide
    omega), ?_⟩
  have kp := Kp.upd (o := HO.lst (vs0 ++ vs2)) (H := H1) (a := l) ⟨_, y3, rfl⟩
  have ki : kd E i = k0 := by
    unfold kd
    rw [e0]
  obtain ⟨lo, lf⟩ := root_of r1 (by rw [ki]; exact hk) q2
  refine o1 σ _ _ (r1.write e0 hk q2 q1 rfl Hand.none (f' := f0) (fun a ha => .inl ha) (by simp) ?_)
  simp only [Rep]
  refine ⟨l, vs0 ++ vs2, f0, rfl, upd_same, ?_, rfl⟩
  have := (RepL.kp kp _ _ _ y4 (not_in lf)).app (RepL.kp kp _ _ _ z4 (fun _ z => nomatch z))
  simpa using this
def dRep : List Tx → List Dat → Tx → Dat → List Dat
  | k :: ks, e :: ds, x, d => (if k = x then d else e) :: dRep ks ds x d
  | _, _, _, _ => []
def vRep : List Tx → List V → Tx → V → List V
  | k :: ks, e :: vs, x, v => (if k = x then v else e) :: vRep ks vs x v
  | _, _, _, _ => []
theorem dRep_none : ∀ {ks : List Tx} {ds : List Dat} {x : Tx} {d : Dat}, x ∉ ks → ks.length = ds.length → dRep ks ds x d = ds
  | [], [], _, _, _, _ => rfl
  | [], _ :: _, _, _, _, h => by simp at h
  | _ :: _, [], _, _, _, h => by simp at h
  | k :: ks, e :: ds, x, d, hx, hl => by
    rw [List.mem_cons, not_or] at hx
    show (if k = x then d else e) :: _ = _
    rw [if_neg (fun z => hx.1 z.symm), dRep_none hx.2 (by simpa using hl)]
theorem vRep_none : ∀ {ks : List Tx} {ds : List V} {x : Tx} {d : V}, x ∉ ks → ks.length = ds.length → vRep ks ds x d = ds
  | [], [], _, _, _, _ => rfl
  | [], _ :: _, _, _, _, h => by simp at h
  | _ :: _, [], _, _, _, h => by simp at h
  | k :: ks, e :: ds, x, d, hx, hl => by
    rw [List.mem_cons, not_or] at hx
    show (if k = x then d else e) :: _ = _
    rw [if_neg (fun z => hx.1 z.symm), vRep_none hx.2 (by simpa using hl)]
theorem vRep_len : ∀ {ks : List Tx} {ds : List V} {x : Tx} {d : V}, ks.length = ds.length → (vRep ks ds x d).length = ks.length
  | [], [], _, _, _ => rfl
  | [], _ :: _, _, _, h => by simp at h
  | _ :: _, [], _, _, h => by simp at h
  | k :: ks, e :: ds, x, d, hl => by
    show (vRep ks ds x d).length + 1 = ks.length + 1
    rw [vRep_len (by simpa using hl)]
theorem any_kv : ∀ {ks : List Tx} {vs : List V} {x : Tx}, ks.length = vs.length → ((kvOf ks vs).any fun kv => decide (kv.1 = (Sum.inr (mkS x) : Key))) = decide (x ∈ ks)
  | [], [], _, _ => rfl
  | [], _ :: _, _, h => by simp at h
  | _ :: _, [], _, h => by simp at h
  | k :: ks, v :: vs, x, h => by
    show (decide ((Sum.inr (mkS k) : Key) = Sum.inr (mkS x)) || _) = _
    rw [any_kv (by simpa using h)]
    by_cases e : k = x
    · subst e
      simp
    · have e2 : ¬ (Sum.inr (mkS k) : Key) = Sum.inr (mkS x) := fun z => by
        injection z with z
        exact e (mkS_inj z)
      rw [decide_eq_false e2, Bool.false_or]
      by_cases h2 : x ∈ ks
      · rw [decide_eq_true h2, decide_eq_true (List.mem_cons_of_mem _ h2)]
      · rw [decide_eq_false h2, decide_eq_false (fun z => (List.mem_cons.mp z).elim (fun q => e q.symm) h2)]
theorem map_kv : ∀ {ks : List Tx} {vs : List V} {x : Tx} {v : V}, ks.length = vs.length → ((kvOf ks vs).map fun kv => if kv.1 = (Sum.inr (mkS x) : Key) then (kv.1, v) else kv) = kvOf ks (vRep ks vs x v)
  | [], [], _, _, _ => rfl
  | [], _ :: _, _, _, h => by simp at h
  | _ :: _, [], _, _, h => by simp at h
  | k :: ks, u :: vs, x, v, h => by
    show (if (Sum.inr (mkS k) : Key) = Sum.inr (mkS x) then ((Sum.inr (mkS k) : Key), v) else (Sum.inr (mkS k), u)) :: (kvOf ks vs).map _ = (Sum.inr (mkS k), if k = x then v else u) :: kvOf ks (vRep ks vs x v)
    rw [map_kv (by simpa using h)]
    by_cases e : k = x
    · subst e
      simp
    · have e2 : ¬ (Sum.inr (mkS k) : Key) = Sum.inr (mkS x) := fun z => by
        injection z with z
        exact e (mkS_inj z)
      rw [if_neg e2, if_neg e]
theorem kv_app : ∀ {ks : List Tx} {vs : List V} {x : Tx} {v : V}, ks.length = vs.length → kvOf ks vs ++ [((Sum.inr (mkS x) : Key), v)] = kvOf (ks ++ [x]) (vs ++ [v])
  | [], [], _, _, _ => rfl
  | [], _ :: _, _, _, h => by simp at h
  | _ :: _, [], _, _, h => by simp at h
  | k :: ks, u :: vs, x, v, h => by
    show _ :: (kvOf ks vs ++ _) = _ :: kvOf (ks ++ [x]) (vs ++ [v])
    rw [kv_app (by simpa using h)]
theorem put_reps {G : Glo} {H : Hp} {d : Dat} {v : V} {fp : List Addr} (hd : Rep G H d v fp) : ∀ {ks : List Tx} {ds : List Dat} {vs : List V} {f : List Addr} {x : Tx}, RepL G H ds vs f → ks.length = vs.length → (ks.Nodup ∧ x ∈ ks) ∨ fp = [] →
    ∃ f' g, RepL G H (dRep ks ds x d) (vRep ks vs x v) f' ∧ (g ++ f').Perm (f ++ fp)
  | [], ds, vs, f, x, r, hl, h => by
    cases vs with
    | cons _ _ => simp at hl
    | nil =>
      have hd0 : ds = [] := by
        have := r.len
        cases ds with
        | nil => rfl
        | cons _ _ => simp at this
      subst hd0
      rcases h with ⟨_, z⟩ | h
      · cases z
      · subst h
        exact ⟨[], f, RepL.nil, by simp⟩
  | k :: ks, ds, vs, f, x, r, hl, h => by
    cases ds with
    | nil =>
      simp only [RepL] at r
      rw [r.1] at hl
      simp at hl
    | cons e ds =>
      simp only [RepL] at r
      obtain ⟨u, us, fh, ft, rfl, rfl, r1, r2⟩ := r
      have hl2 : ks.length = us.length := by simpa using hl
      by_cases e1 : k = x
      · subst e1
        have s1 : dRep (k :: ks) (e :: ds) k d = d :: dRep ks ds k d := by
          show (if k = k then d else e) :: _ = _
          rw [if_pos rfl]
        have s2 : vRep (k :: ks) (u :: us) k v = v :: vRep ks us k v := by
          show (if k = k then v else u) :: _ = _
          rw [if_pos rfl]
        rw [s1, s2]
        rcases h with ⟨hn, _⟩ | h
        · have hk := (List.nodup_cons.mp hn).1
          rw [dRep_none hk (by rw [hl2, r2.len]), vRep_none hk hl2]
          refine ⟨fp ++ ft, fh, RepL.cons hd r2, ?_⟩
          rw [List.append_assoc]
          exact List.Perm.append_left fh List.perm_append_comm
        · subst h
          obtain ⟨f', g, h1, h2⟩ := put_reps hd (x := k) r2 hl2 (.inr rfl)
          refine ⟨[] ++ f', fh ++ g, RepL.cons hd h1, ?_⟩
          rw [List.nil_append, List.append_assoc, List.append_assoc]
          exact List.Perm.append_left fh h2
      · have s1 : dRep (k :: ks) (e :: ds) x d = e :: dRep ks ds x d := by
          show (if k = x then d else e) :: _ = _
          rw [if_neg e1]
        have s2 : vRep (k :: ks) (u :: us) x v = u :: vRep ks us x v := by
          show (if k = x then v else u) :: _ = _
          rw [if_neg e1]
        rw [s1, s2]
        obtain ⟨f', g, h1, h2⟩ := put_reps hd (x := x) r2 hl2 (h.imp (fun ⟨hn, hm⟩ => ⟨(List.nodup_cons.mp hn).2, (List.mem_cons.mp hm).resolve_left fun z => e1 z.symm⟩) id)
        refine ⟨fh ++ f', g, RepL.cons r1 h1, ?_⟩
        have : (g ++ (fh ++ f')).Perm (fh ++ (g ++ f')) := by
          rw [← List.append_assoc, ← List.append_assoc]
          exact List.Perm.append_right f' List.perm_append_comm
        refine this.trans ?_
        rw [List.append_assoc]
        exact List.Perm.append_left fh h2
def gPut (x : Tx) (a b : Dat) : Option Dat := match a with
  | .dic ks ds => if ks.length ≤ 1000000 then (if x ∈ ks then (if flat b = true ∨ ks.Nodup then some (.dic ks (dRep ks ds x b)) else none) else some (.dic (ks ++ [x]) (ds ++ [b]))) else none
  | _ => none
def sPut1 (i : Nat) (E : Sto) (r : Rs) (kr : Rs) : Res Fl := match kr.d with
  | .str x => sMut1 i (gPut x) E r
  | _ => .no
def sPut (i : Nat) (fk fv : Sto → Res Rs) : Sto → Res Fl := fun E => if dicAt (slot E i) then (fv E).bind fun r => (fk E).bind fun kr => sPut1 i E r kr else .no
theorem put_obj {G : Glo} {H : Hp} {l : Addr} {ks : List Tx} {ds : List Dat} {vs : List V} {f fp : List Addr} {x : Tx} {b d' : Dat} {v : V} (g : gPut x (.dic ks ds) b = some d') (hl : ks.length = vs.length) (h1 : H l = some (.dK (kvOf ks vs))) (r : RepL G H ds vs f) (hb : Rep G H b v fp) (n1 : l ∉ f) (n2 : l ∉ fp) :
    ∃ f' g', Rep G (upd H l (.dK (putK (kvOf ks vs) (Sum.inr (mkS x) : Key) v))) d' (.ref l) (l :: f') ∧ (g' ++ f').Perm (f ++ fp) ∧ (kvOf ks vs).length < sizeLine := by
  unfold gPut at g
  simp only at g
  have hz : ks.length ≤ 1000000 := Classical.byContradiction fun z => by
    rw [if_neg z] at g
    cases g
  rw [if_pos hz] at g
  have kp := Kp.upd (o := HO.dK (putK (kvOf ks vs) (Sum.inr (mkS x) : Key) v)) (H := H) (a := l) ⟨_, h1, rfl⟩
  have sz : (kvOf ks vs).length < sizeLine := by
    rw [kvOf_len hl]
    exact size_lt hz
  by_cases hx : x ∈ ks
  · rw [if_pos hx] at g
    have hc : flat b = true ∨ ks.Nodup := Classical.byContradiction fun z => by
      rw [if_neg z] at g
      cases g
    rw [if_pos hc] at g
    injection g with g
    subst g
    have hor : (ks.Nodup ∧ x ∈ ks) ∨ fp = [] := hc.elim (fun z => .inr (Rep.flat _ _ _ hb z)) fun z => .inl ⟨z, hx⟩
    obtain ⟨f', g', r1, pm⟩ := put_reps (x := x) hb r hl hor
    have ln : l ∉ f' := fun z => by
      have := pm.mem_iff.mp (List.mem_append_right _ z)
      rcases List.mem_append.mp this with q | q
      · exact n1 q
      · exact n2 q
    refine ⟨f', g', ?_, pm, sz⟩
    simp only [Rep]
    refine ⟨l, vRep ks vs x v, f', rfl, .inl ?_, (vRep_len hl).symm, RepL.kp kp _ _ _ r1 (not_in ln), rfl⟩
    rw [upd_same]
    unfold putK
    rw [any_kv hl, decide_eq_true hx, if_pos rfl, map_kv hl]
  · rw [if_neg hx] at g
    injection g with g
    subst g
    refine ⟨f ++ fp, [], ?_, by simp, sz⟩
    simp only [Rep]
    refine ⟨l, vs ++ [v], f ++ fp, rfl, .inl ?_, by simp [hl], (RepL.kp kp _ _ _ r (not_in n1)).app (RepL.one (Rep.kp kp _ _ _ hb (not_in n2))), rfl⟩
    rw [upd_same]
    unfold putK
    rw [any_kv hl, decide_eq_false hx, if_neg (by decide), kv_app hl]
theorem es_put (C : XOk k X) {ke value : Expr} {pos' : Pos} {fk fv : Sto → Res Rs} (ho : PE X o (tVar i)) (hk : Ev X W ke fk) (hv : Ev X W value fv) (hs : swapsWith value (some (.Subscript o ke pos')) pos.line X.env = pure false := by rfl) :
    Es X W (.Assign [.Subscript o ke pos'] value pos) (sPut i fk fv) := by
  refine ⟨weakS (ps_dput C.hu ho hk.pe hv.pe hs) fun D σ H ⟨B, E, F, r, o⟩ => ?_⟩
  unfold sPut at o
  have hc : dicAt (slot E i) = true := Classical.byContradiction fun hc => by
    rw [if_neg hc] at o
    exact o.elim
  rw [if_pos hc] at o
  obtain ⟨ks0, ds0, k00, e0⟩ := dicAt_of hc
  refine seqS r o fun rs v H1 fp e1 s1 g1 o1 => ?_
  obtain ⟨w0, q1, q2⟩ := r.rep.rep i _ _ e0
  simp only [Rep] at q2
  obtain ⟨l0, _, _, rfl, _⟩ := q2
  refine ⟨.ref l0, q1, ?_⟩
  refine seqS (r.same s1) o1 fun kr y H2 f2 e2 s2 g2 o2 => ?_
  have pk := g2.rep
  unfold sPut1 at o2
  cases ed : kr.d <;> simp only [ed] at o2 <;> first | exact o2.elim | skip
  rename_i x
  rw [ed] at pk
  have ey := rep_str pk
  subst ey
  obtain ⟨d0, k0, d', E1, F1, k2, z1, z2, z3, r1, h1, fin⟩ := mut_run r (s1.trans s2) (g1.same s2) o2
  cases d0 with
  | dic ks ds =>
    obtain ⟨l, vs, f', y1, y2, y3, y4, y5⟩ := dic_slot r1 z1 z2
    have el : l = l0 := by
      rw [q1] at y1
      injection y1 with y1
      injection y1 with y1
      injection y1 with y1
      exact y1.symm
    subst el
    have ki : kd E1 i = k0 := by
      unfold kd
      rw [z1]
    obtain ⟨lo, lf⟩ := root_of r1 (by rw [ki]; exact z2) y2
    obtain ⟨f3, g3, p1, p2, p3⟩ := put_obj z3 y4 y3 y5 h1.rep lf (h1.sp2 i l (ow_sw lo))
    refine ⟨l, _, rfl, DPut.k (k := Sum.inr (mkS x)) y3 p3, ?_⟩
    refine fin (.ref l) l f' f3 _ y2 y1 rfl (fun a ha => List.mem_append.mp (p2.mem_iff.mp (List.mem_append_right _ ha))) (fun n => ?_) fun n1 n2 => p1
    exact (List.nodup_append.mp (p2.nodup_iff.mpr n)).2.1
  | _ =>
    unfold gPut at z3
    simp only at z3
    cases z3
end
end PV

namespace PV
open PySem PySem.Spec L2
section
variable {X : Cx} {W : WX} {k : Nat}
def fDic0 : Sto → Res Rs := fun _ => .ok ⟨.dic [] [], true, [], some []⟩
theorem ev_dic0 {pos : Pos} : Ev X W (.Dict [] [] pos) fDic0 := by
  refine ⟨weakE pe_dnewK fun σ H Q ⟨E, F, re, o⟩ => fun p hp => ?_⟩
  have wp : Wr (upd H p (.dK [])) p := ⟨_, upd_same, rfl⟩
  refine o _ _ [p] (same_new hp) ⟨?_, fun a ha => .inl (by rw [List.mem_singleton.mp ha]; exact hp), fun _ => ⟨p, [], rfl, hp, wp, (fun z => nomatch z)⟩, fun m em => ?_⟩
  · show Rep (glo X) (upd H p (.dK [])) (.dic [] []) (.ref p) [p]
    simp only [Rep]
    exact ⟨p, [], [], rfl, .inl upd_same, rfl, RepL.nil, rfl⟩
  · have : m = [] := by
      injection em with em
      exact em.symm
    subst this
    refine ⟨[p], by simp, by simp, fun a ha => ?_⟩
    rw [List.mem_singleton.mp ha]
    exact ⟨hp, wp⟩
def dic1 (kr vr : Rs) : Res Rs := match kr.d with
  | .str x => .ok ⟨.dic [x] [vr.d], true, vr.src, vr.mv⟩
  | _ => .no
def fDic1 (fk fv : Sto → Res Rs) : Sto → Res Rs := fun E => (fk E).bind fun kr => (fv E).bind fun vr => dic1 kr vr
theorem Out.fwd {H H2 : Hp} {F : Fp} {σ : L2.St} {o : Res Rs} {Q : VK} (h : Out X W H H F σ o Q) (s : Same H H2) : Out X W H2 H2 F σ o Q := by
  cases o with
  | no => exact h
  | exc c => exact fun C H' m s2 => h C H' m (s.trans s2)
  | ok r => exact fun v H' fp s2 g => h v H' fp (s.trans s2) (g.back s)
theorem ev_dic1 {a b : Expr} {pos : Pos} {fk fv : Sto → Res Rs} (hk : Ev X W a fk) (hv : Ev X W b fv) : Ev X W (.Dict [some a] [b] pos) (fDic1 fk fv) := by
  refine ⟨weakE (pe_disp (pps_cons hk.pe hv.pe pps_nil) rfl rfl (by simp) (by simp)) fun σ H Q ⟨E, F, re, o⟩ => fun p hp => ?_⟩
  have sp := same_new (o := HO.dK []) hp
  have op : (upd H p (.dK [])) p = some (.dK []) := upd_same
  refine seqE (re.same sp) (Same.refl _) (o.fwd sp) fun kr x H1 f1 e1 s1 g1 o1 => ?_
  refine seqE (re.same (sp.trans s1)) s1 o1 fun vr y H2 f2 e2 s2 g2 o2 => ?_
  have pk := g1.rep
  unfold fDic1 at o
  rw [e1, bind_ok, e2, bind_ok] at o
  unfold dic1 at o
  cases ed : kr.d <;> simp only [ed] at o <;> first | exact o.elim | skip
  rename_i x'
  rw [ed] at pk
  have ex := rep_str pk
  subst ex
  have hp2 := s2 _ _ (s1 _ _ op)
  refine ⟨hp2, [(Sum.inr (mkS x'), y)], rfl, by simp, ?_⟩
  have em : mergeK [] [((Sum.inr (mkS x') : Key), y)] = kvOf [x'] [y] := rfl
  rw [em]
  have nf : p ∉ f2 := fun z => by
    rcases g2.prv.src p z with q | ⟨i, _, q⟩
    · rw [op] at q
      cases q
    · exact re.trk i p q hp
  have wp2 : Wr H2 p := ⟨_, hp2, rfl⟩
  have kp := Kp.upd (o := HO.dK (kvOf [x'] [y])) wp2
  have wp : Wr (upd H2 p (.dK (kvOf [x'] [y]))) p := ⟨_, upd_same, rfl⟩
  have g3 := g2.back sp
  have sm : Same H (upd H2 p (.dK (kvOf [x'] [y]))) := fun c u e => by
    have hc : c ≠ p := fun z => by
      rw [z, hp] at e
      cases e
    rw [upd_ne hc]
    exact s2 _ _ (s1 _ _ (sp _ _ e))
  refine o _ _ (p :: f2) sm ⟨?_, fun a ha => ?_, fun _ => ⟨p, f2, rfl, hp, wp, nf⟩, fun m em => ?_⟩
  · show Rep (glo X) _ (.dic [x'] [vr.d]) (.ref p) (p :: f2)
    simp only [Rep]
    exact ⟨p, [y], f2, rfl, .inl upd_same, rfl, RepL.one (Rep.kp kp _ _ _ g2.rep (not_in nf)), rfl⟩
  · rcases List.mem_cons.mp ha with z | z
    · rw [z]
      exact .inl hp
    · exact g3.prv.src a z
  · obtain ⟨fr, q1, q2, q3⟩ := g3.prv.mv m em
    have nfr : p ∉ fr := fun z => nf (q1.mem_iff.mpr (by simp [z]))
    refine ⟨p :: fr, q1.cons p, List.nodup_cons.mpr ⟨nfr, q2⟩, fun a ha => ?_⟩
    rcases List.mem_cons.mp ha with z | z
    · rw [z]
      exact ⟨hp, wp⟩
    · refine ⟨(q3 a z).1, ?_⟩
      obtain ⟨u, e, w⟩ := (q3 a z).2
      have na : a ≠ p := fun y => nfr (by rw [← y]; exact z)
      exact ⟨u, by rw [upd_ne na]; exact e, w⟩
def gGet1 (ra rb : Rs) : Res Rs := match ra.d, rb.d with
  | .dic ks ds, .str x => match dGet ks ds x with
    | some d => .ok (pick ra d)
    | none => .ok (rsF .non)
  | _, _ => .no
def fGet1 (fo fk : Sto → Res Rs) : Sto → Res Rs := fun E => (fo E).bind fun ra => match ra.d with
  | .dic _ _ => (fk E).bind fun rb => gGet1 ra rb
  | _ => .no
theorem ev_get1 (C : XOk k X) {o e : Expr} {apos cpos : Pos} {fo fk : Sto → Res Rs} (ho : Ev X W o fo) (he : Ev X W e fk) (m : M1 X o "get" apos e cpos) : Ev X W (.Call (.Attribute o "get" apos) [e] [] cpos) (fGet1 fo fk) := by
  refine ⟨weakE (pe_dget1 C.hu ho.pe he.pe m) fun σ H Q ⟨E, F, re, oo⟩ => ?_⟩
  refine seqE re (Same.refl H) oo fun ra x H1 f1 e1 s1 g1 o1 => ?_
  have p := g1.rep
  cases ed : ra.d <;> simp only [ed] at o1 <;> first | exact o1.elim | skip
  rename_i ks ds
  have p0 := p
  rw [ed] at p
  simp only [Rep] at p
  obtain ⟨a, vs, f', ex, hd, hl, rl, ef⟩ := p
  refine ⟨a, ex, .inl ⟨_, hd⟩, ?_⟩
  refine seqE (re.same s1) s1 o1 fun rb y H2 f2 e2 s2 g2 o2 => ?_
  have q := g2.rep
  unfold gGet1 at o2
  simp only [ed] at o2
  cases ee : rb.d <;> simp only [ee] at o2 <;> first | exact o2.elim | skip
  rename_i z
  rw [ee] at q
  have ey := rep_str q
  subst ey
  have hd2 : Rd H2 a (.dK (kvOf ks vs)) := hd.imp (s2 _ _) fun ⟨ob, h⟩ => ⟨ob, s2 _ _ h⟩
  have rl2 := rl.same s2
  have dv := dGet_val (ks := ks) z rl2 hl
  refine ⟨valV (kvOf ks vs) (Sum.inr (mkS z) : Key), .inl ⟨_, _, hd2, rfl, rfl⟩, ?_⟩
  cases eg : dGet ks ds z with
  | none =>
    rw [eg] at dv
    simp only [eg] at o2
    simp only at dv
    rw [dv]
    exact o2.flat mk_non
  | some d =>
    rw [eg] at dv
    simp only [eg] at o2
    obtain ⟨v, f, h1, h2, h3⟩ := dv
    rw [h1]
    exact pick_out (g1.same s2) h2 (fun b hb => by rw [ef]; exact List.mem_cons_of_mem _ (h3 b hb)) o2
def gGet2 (ra rb rc : Rs) : Res Rs := match ra.d, rb.d with
  | .dic ks ds, .str x => match dGet ks ds x with
    | some d => .ok (pick ra d)
    | none => .ok rc
  | _, _ => .no
def fGet2 (fo fk fd : Sto → Res Rs) : Sto → Res Rs := fun E => (fo E).bind fun ra => match ra.d with
  | .dic _ _ => (fk E).bind fun rb => (fd E).bind fun rc => gGet2 ra rb rc
  | _ => .no
theorem ev_get2 (C : XOk k X) {o e e2 : Expr} {apos cpos : Pos} {fo fk fd : Sto → Res Rs} (ho : Ev X W o fo) (he : Ev X W e fk) (hf : Ev X W e2 fd) (m : M2 X o "get" apos e e2 cpos) : Ev X W (.Call (.Attribute o "get" apos) [e, e2] [] cpos) (fGet2 fo fk fd) := by
  refine ⟨weakE (pe_dget2 C.hu ho.pe he.pe hf.pe m) fun σ H Q ⟨E, F, re, oo⟩ => ?_⟩
  refine seqE re (Same.refl H) oo fun ra x H1 f1 e1 s1 g1 o1 => ?_
  have p := g1.rep
  cases ed : ra.d <;> simp only [ed] at o1 <;> first | exact o1.elim | skip
  rename_i ks ds
  rw [ed] at p
  simp only [Rep] at p
  obtain ⟨a, vs, f', ex, hd, hl, rl, ef⟩ := p
  refine ⟨a, ex, .inl ⟨_, hd⟩, ?_⟩
  refine seqE (re.same s1) s1 o1 fun rb y H2 f2 e2 s2 g2 o2 => ?_
  refine seqE (re.same (s1.trans s2)) (s1.trans s2) o2 fun rc w H3 f3 e3 s3 g3 o3 => ?_
  have q := g2.rep
  unfold gGet2 at o3
  simp only [ed] at o3
  cases ee : rb.d <;> simp only [ee] at o3 <;> first | exact o3.elim | skip
  rename_i z
  rw [ee] at q
  have ey := rep_str q
  subst ey
  have hd2 : Rd H3 a (.dK (kvOf ks vs)) := hd.imp (fun h => s3 _ _ (s2 _ _ h)) fun ⟨ob, h⟩ => ⟨ob, s3 _ _ (s2 _ _ h)⟩
  have rl2 := rl.same (s2.trans s3)
  have dv := dGet_val (ks := ks) z rl2 hl
  refine ⟨valV (kvOf ks vs) (Sum.inr (mkS z) : Key), .inl ⟨_, _, hd2, rfl, rfl⟩, ?_⟩
  cases eg : dGet ks ds z with
  | none =>
    rw [eg] at dv
    simp only [eg] at o3
    simp only at dv
    rw [dv]
    exact o3 w H3 f3 (Same.refl H3) g3
  | some d =>
    rw [eg] at dv
    simp only [eg] at o3
    obtain ⟨v, f, h1, h2, h3⟩ := dv
    rw [h1]
    exact pick_out ((g1.same s2).same s3) h2 (fun b hb => by rw [ef]; exact List.mem_cons_of_mem _ (h3 b hb)) o3
def gMax2 (ra rb : Rs) : Res Rs := match ra.d, rb.d with
  | .int i, .int j => .ok (rsF (.int (if j > i then j else i)))
  | _, _ => .no
end
end PV

namespace PV
open PySem PySem.Spec L2
section
variable {X : Cx} {W : WX} {k : Nat}
def sUnp1 (is : List Nat) (E : Sto) (r : Rs) : Res Fl := match r.d with
  | .tup ds => match sPar.bindK is ds (PV.take false r E).2 (PV.take false r E).1 with
    | some E' => .ok (.nx E')
    | none => .no
  | _ => .no
def sUnp (is : List Nat) (f : Sto → Res Rs) : Sto → Res Fl := fun E => (f E).bind (sUnp1 is E)
theorem gL_sets : ∀ {is : List Nat} {vs : List V} {σ : L2.St} {H : Hp} {Q : L2.St → Hp → Prop}, is.length = vs.length → Q (sets σ is vs) H → gL is vs σ H Q
  | [], [], σ, H, Q, _, h => ⟨rfl, h⟩
  | [], _ :: _, _, _, _, l, _ => by simp at l
  | _ :: _, [], _, _, _, l, _ => by simp at l
  | i :: is, v :: vs, σ, H, Q, l, h => ⟨v, vs, rfl, gL_sets (is := is) (vs := vs) (by simpa using l) h⟩
theorem bindK_len : ∀ {is : List Nat} {ds : List Dat} {kk : Kd} {E E' : Sto}, sPar.bindK is ds kk E = some E' → is.length = ds.length
  | [], [], _, _, _, _ => rfl
  | [], _ :: _, _, _, _, e => by simp only [sPar.bindK] at e; cases e
  | _ :: _, [], _, _, _, e => by simp only [sPar.bindK] at e; cases e
  | i :: is, d :: ds, kk, E, E', e => by
    simp only [sPar.bindK] at e
    by_cases hi : i < E.length ∧ i ∉ is
    · rw [if_pos hi] at e
      have := bindK_len e
      simp [this]
    · rw [if_neg hi] at e
      cases e
theorem es_unp (C : XOk k X) {is : List Nat} {es : List Expr} {e : Expr} {f : Sto → Res Rs} {kt : Nat} {pt pos : Pos} (he : Ev X W e f) (hg : PGs X es (gL is)) (hs : swapsWithSole [.Tuple es kt pt] e pos.line X.env = pure false := by rfl) (hw : swappedStores [.Tuple es kt pt] e X.env = pure none := by rfl)
    (h1 : (assignEach [.Tuple es kt pt] X.env).map (·.2) = [assign (.Tuple es kt pt) X.env] := by rfl) (hn : (assignEach es X.env).length = is.length := by rfl) (hst : (assignEach es X.env).findIdx? (·.1) = none := by rfl) :
    Es X W (.Assign [.Tuple es kt pt] e pos) (sUnp is f) := by
  refine ⟨weakS (ps_asg he.pe (pg_tup C.calm hg hn hst) hs hw h1) fun D σ H ⟨B, E, F, r, o⟩ => seqS r o fun rs v H1 fp e1 s1 g o1 => ?_⟩
  have p := g.rep
  unfold sUnp1 at o1
  cases ed : rs.d <;> simp only [ed] at o1 <;> first | exact o1.elim | skip
  rename_i ds
  rw [ed] at p
  simp only [Rep] at p
  obtain ⟨a, vs, rfl, hq, rl⟩ := p
  cases eb : sPar.bindK is ds (PV.take false rs E).2 (PV.take false rs E).1 with
  | none =>
    simp only [eb] at o1
    exact o1.elim
  | some E' =>
    simp only [eb] at o1
    obtain ⟨F1, r1, hd⟩ := r.take false s1 g
    have hl := bindK_len eb
    have dp : ∀ {α : Prop}, (PV.take false rs E).2 = .deep → (∀ x ∈ fp, x ∈ owK (PV.take false rs E).2 fp) := fun z x hx => by
      rw [z]
      exact hx
    obtain ⟨F', r'⟩ := put_all r1 rl (fun z => ⟨hd.nod z, fun x hx => hd.own x (dp (α := True) z x hx)⟩) (fun z x hx => hd.sp1 x (dp (α := True) z x hx)) (fun z t ht x hx => hd.tmp t ht x (dp (α := True) z x hx)) hd.sp2 hd.prv eb
    exact ⟨a, vs, rfl, hq, by rw [rl.len, hl], gL_sets (by rw [rl.len, hl]) (o1 _ H1 F' r')⟩
theorem tg_many (C : XOk k X) {is : List Nat} {es : List Expr} {kt : Nat} {pt : Pos} (hg : PGs X es (gL is)) (hn : (assignEach es X.env).length = is.length := by rfl) (hst : (assignEach es X.env).findIdx? (·.1) = none := by rfl) : PG X (.Tuple es kt pt) (gT X.K (.many is)) :=
  pg_tup C.calm hg hn hst
theorem tg_cons (C : XOk k X) {i : Nat} {is : List Nat} {x : Str} {es : List Expr} {pos : Pos} (h2 : PGs X es (gL is)) (hi : X.N[i]? = some x := by rfl) (hx : Loc X.env.scope x := by first | exact Or.inl rfl | exact Or.inr rfl) (hf : X.fn x = true ∨ X.env.scope.names.lookup x = some .local := by first | exact .inl rfl | exact .inr rfl)
    (hs : (assignEach (.Name x pos :: es) X.env).map (·.2) = assign (.Name x pos) X.env :: (assignEach es X.env).map (·.2) := by rfl) : PGs X (.Name x pos :: es) (gL (i :: is)) :=
  pgs_cons (pg_name C.nd hi hx hf) h2 hs
theorem tg_nil : PGs X [] (gL []) := pgs_nil
end
end PV

namespace PV
open PySem PySem.Spec L2
section
variable {X : Cx} {W : WX} {k : Nat}
/-- a list that is walked, and what keeps it -/
structure SqK (K : PySem.W.Frag) (a : Addr) (vs : List V) (fr : List Addr) (S : Hp → Prop) : Prop where
  sq : ∀ H, S H → SqL K H a vs
  kf : ∀ W H H', S H → Kp W H H' → (∀ b ∈ fr, b ∉ W) → S H'
  tr : ∀ H, S H → ∀ b ∈ fr, H b ≠ none
theorem sqk_of {G : Glo} {H : Hp} {d : Dat} {xs : List Dat} {v : V} {fp : List Addr} (r : Rep G H d v fp) (h : seqOf d = some xs) : ∃ a vs f fr S, v = .ref a ∧ SqK G.K a vs fr S ∧ S H ∧ RepL G H xs vs f ∧ fp = fr ++ f := by
  cases d <;> simp only [seqOf] at h <;> cases h
  · simp only [Rep] at r
    obtain ⟨a, vs, f, rfl, q, rl, e⟩ := r
    refine ⟨a, vs, f, [a], fun H => H a = some (.lst vs), rfl, ⟨fun H z => .inl (.inl z), fun W H H' z kf n => kf.lst a vs (n a (by simp)) z, fun H z b hb => ?_⟩, q, rl, e⟩
    rw [List.mem_singleton.mp hb, z]
    simp
  · simp only [Rep] at r
    obtain ⟨a, vs, rfl, q, rl⟩ := r
    exact ⟨a, vs, fp, [], fun H => RoL G.K H a vs, rfl, ⟨fun H z => z.elim (fun ⟨o, y⟩ => .inl (.inr ⟨o, y⟩)) .inr, fun W H H' z kf _ => z.imp (kf.frl a vs) id, (fun _ _ _ z => nomatch z)⟩, q, rl, rfl⟩
/-- a new pair of known parts -/
theorem pair_new {G : Glo} {H : Hp} {T : Addr} {x y : V} {d e : Dat} {f g : List Addr} (hT : H T = none) (hx : Rep G H d x f) (hy : Rep G H e y g) : Same H (upd H T (.tup [x, y])) ∧ Rep G (upd H T (.tup [x, y])) (.tup [d, e]) (.ref T) (f ++ g) := by
  have s := same_new (o := HO.tup [x, y]) hT
  refine ⟨s, ?_⟩
  simp only [Rep]
  exact ⟨T, [x, y], rfl, .inl (.inl upd_same), RepL.cons (hx.same s) (RepL.one (hy.same s))⟩
def enumD (n : Nat) : List Dat → List Dat
  | [] => []
  | d :: ds => .tup [.int n, d] :: enumD (n + 1) ds
theorem enumD_len : ∀ (ds : List Dat) (n : Nat), (enumD n ds).length = ds.length
  | [], _ => rfl
  | d :: ds, n => by
    show (enumD (n + 1) ds).length + 1 = ds.length + 1
    rw [enumD_len ds]
theorem enumD_at : ∀ (ds : List Dat) (n i : Nat), (enumD n ds)[i]? = ds[i]?.map fun d => .tup [.int ((n + i : Nat) : Int), d]
  | [], _, i => by simp [enumD]
  | d :: ds, n, 0 => rfl
  | d :: ds, n, i + 1 => by
    show (enumD (n + 1) ds)[i]? = _
    rw [enumD_at ds (n + 1) i]
    have : n + 1 + i = n + (i + 1) := by omega
    rw [this]
    rfl
def gEnum (r : Rs) : Res (List Dat × List Nat) := match seqOf r.d with
  | some xs => .ok (enumD 0 xs, r.src)
  | none => .no
def iEnumF (f : Sto → Res Rs) : Sto → Res (List Dat × List Nat) := fun E => (f E).bind gEnum
theorem ei_enum {e : Expr} {elts : List Expr} {kk : Nat} {tpos p pos : Pos} {f : Sto → Res Rs} (hm : X.mg "enumerate" = none) (h : Ev X W e f) (hg : Gl X "enumerate" := by rfl) (hs : starEach [e] X.env = [(false, eval e X.env)] := by rfl) (hs1 : starEach [e] X.env = (false, eval e X.env) :: starEach [] X.env := by rfl) :
    Ei X W (.Tuple elts kk tpos) (.Call (.Name "enumerate" p) [e] [] pos) (iEnumF f) := by
  refine ⟨weakI (pi_enum hg hm (pa_cons h.pe pa_nil hs1) hs) fun σ H R ⟨E, F, re, o⟩ => ?_⟩
  refine seqI (kk := gEnum) re o fun r v H1 fp e1 s1 g o1 => ?_
  unfold gEnum at o1
  cases es : seqOf r.d with
  | none =>
    simp only [es] at o1
  | some xs =>
    simp only [es] at o1
    obtain ⟨a, vs, f', fr, S, rfl, sk, hS, rl, ef⟩ := sqk_of g.rep es
    subst ef
    refine ⟨a, vs, rfl, sk.sq _ hS, ?_⟩
    refine o1 (Ite X.K a) H1 (fr ++ f') (fun H2 => S H2 ∧ RepL (glo X) H2 xs vs f') s1 (.ofKp ⟨hS, rl⟩ ?_ (fun W H2 H3 ⟨q1, q2⟩ kf n => ⟨sk.kf W H2 H3 q1 kf fun b hb => n b (by simp [hb]), RepL.kp kf _ _ _ q2 fun b hb => n b (by simp [hb])⟩) (fun H2 ⟨q1, q2⟩ b hb => ?_) (fun b hb => g.prv.src b hb))
    · have w := walk_enum (K := X.K) (a := a) (xs := vs)
      rw [rl.len, ← enumD_len xs 0] at w
      refine w.mono (fun H2 z => sk.sq _ z.1) fun n H2 x H3 hn z y => ?_
      obtain ⟨T, u, u', e1, e2, e3, e4, e5⟩ := y
      subst e1 e3
      have e4 : some (V.int (n : Nat)) = some u := e4
      have e5 : vs[n]? = some u' := e5
      rw [enumD_len] at hn
      obtain ⟨v', f3, q1, q2, q3⟩ := z.2.at (List.getElem?_eq_getElem hn)
      rw [e5] at q1
      injection q1 with q1
      subst q1
      injection e4 with e4
      subst e4
      obtain ⟨k1, k2⟩ := pair_new (G := glo X) (d := .int (n : Nat)) (f := []) e2 mk_int q2
      refine ⟨k1, .tup [.int (n : Nat), xs[n]], [] ++ f3, ?_, k2, fun b hb => by simp at hb; simp [q3 b hb]⟩
      rw [enumD_at, List.getElem?_eq_getElem hn]
      simp
    · rcases List.mem_append.mp hb with z | z
      · exact sk.tr _ q1 b z
      · exact RepL.trk _ _ _ q2 b z
def zipD : List Dat → List Dat → List Dat
  | x :: xs, y :: ys => .tup [x, y] :: zipD xs ys
  | _, _ => []
theorem zipD_len : ∀ (xs ys : List Dat), (zipD xs ys).length = min xs.length ys.length
  | [], _ => by simp [zipD]
  | _ :: _, [] => by simp [zipD]
  | x :: xs, y :: ys => by
    show (zipD xs ys).length + 1 = min (xs.length + 1) (ys.length + 1)
    rw [zipD_len xs ys]
    omega
theorem zipD_at : ∀ {xs ys : List Dat} {i : Nat} {x y : Dat}, xs[i]? = some x → ys[i]? = some y → (zipD xs ys)[i]? = some (.tup [x, y])
  | [], _, i, _, _, h, _ => by simp at h
  | _ :: _, [], i, _, _, _, h => by simp at h
  | x :: xs, y :: ys, 0, _, _, h, h2 => by
    cases h
    cases h2
    rfl
  | x :: xs, y :: ys, i + 1, _, _, h, h2 => zipD_at (xs := xs) (ys := ys) (i := i) (by simpa using h) (by simpa using h2)
def gZip (ra rb : Rs) : Res (List Dat × List Nat) := match seqOf ra.d, seqOf rb.d with
  | some xs, some ys => .ok (zipD xs ys, ra.src ++ rb.src)
  | _, _ => .no
def iZipF (fa fb : Sto → Res Rs) : Sto → Res (List Dat × List Nat) := fun E => (fa E).bind fun ra => (fb E).bind fun rb => gZip ra rb
theorem ei_zip {e e2 : Expr} {elts : List Expr} {kk : Nat} {tpos p pos : Pos} {fa fb : Sto → Res Rs} (hm : X.mg "zip" = none) (ha : Ev X W e fa) (hb : Ev X W e2 fb) (hg : Gl X "zip" := by rfl) (hs : starEach [e, e2] X.env = (false, eval e X.env) :: starEach [e2] X.env := by rfl) (hs1 : starEach [e2] X.env = (false, eval e2 X.env) :: starEach [] X.env := by rfl) (hpl : (backTo pos (starEach [e2] X.env)).any (·.1) = false := by rfl) :
    Ei X W (.Tuple elts kk tpos) (.Call (.Name "zip" p) [e, e2] [] pos) (iZipF fa fb) := by
  refine ⟨weakI (pi_zip hg hm (pa_cons ha.pe (pa_cons hb.pe pa_nil hs1) hs) hs hpl) fun σ H R ⟨E, F, re, o⟩ => ?_⟩
  refine seqI (kk := fun ra => (fb E).bind fun rb => gZip ra rb) re o fun r v H1 fp e1 s1 g o1 => ?_
  refine ⟨E, F, re.same s1, ?_⟩
  cases er : fb E with
  | no =>
    rw [er] at o1
    exact o1
  | exc c =>
    rw [er] at o1
    exact fun C H' m s => o1 C H' m (s1.trans s)
  | ok r2 =>
    rw [er] at o1
    intro v2 H2 fp2 s2 g2
    have g2 := g2.back s1
    have g' := g.same s2
    simp only [bind_ok] at o1
    unfold gZip at o1
    cases es : seqOf r.d with
    | none =>
      simp only [es] at o1
    | some xs =>
      cases es2 : seqOf r2.d with
      | none =>
        simp only [es, es2] at o1
      | some ys =>
        simp only [es, es2] at o1
        obtain ⟨a, vs, f', fr, S, rfl, sk, hS, rl, ef⟩ := sqk_of g'.rep es
        obtain ⟨b, us, f2, fr2, S2, rfl, sk2, hS2, rl2, ef2⟩ := sqk_of g2.rep es2
        subst ef ef2
        refine ⟨a, b, vs, us, rfl, sk.sq _ hS, sk2.sq _ hS2, ?_⟩
        refine o1 (Itz X.K a b) H2 ((fr ++ f') ++ (fr2 ++ f2)) (fun H3 => (S H3 ∧ RepL (glo X) H3 xs vs f') ∧ (S2 H3 ∧ RepL (glo X) H3 ys us f2)) (s1.trans s2) (.ofKp ⟨⟨hS, rl⟩, ⟨hS2, rl2⟩⟩ ?_ (fun W H3 H4 ⟨⟨q1, q2⟩, ⟨q3, q4⟩⟩ kf n => ⟨⟨sk.kf W H3 H4 q1 kf fun c hc => n c (by simp [hc]), RepL.kp kf _ _ _ q2 fun c hc => n c (by simp [hc])⟩, ⟨sk2.kf W H3 H4 q3 kf fun c hc => n c (by simp [hc]), RepL.kp kf _ _ _ q4 fun c hc => n c (by simp [hc])⟩⟩) (fun H3 ⟨⟨q1, q2⟩, ⟨q3, q4⟩⟩ c hc => ?_) (fun c hc => ?_))
        · have w := walk_zip (K := X.K) (a := a) (b := b) (xs := vs) (ys := us) (n := (zipD xs ys).length) (by rw [zipD_len, rl.len, rl2.len])
          refine w.mono (fun H3 z => ⟨sk.sq _ z.1.1, sk2.sq _ z.2.1⟩) fun n H3 x H4 hn z y => ?_
          obtain ⟨T, u, u', e1, e2, e3, e4, e5⟩ := y
          subst e1 e3
          have e4 : vs[n]? = some u := e4
          have e5 : us[n]? = some u' := e5
          rw [zipD_len] at hn
          have hn1 : n < xs.length := by omega
          have hn2 : n < ys.length := by omega
          obtain ⟨v', f3, q1, q2, q3⟩ := z.1.2.at (List.getElem?_eq_getElem hn1)
          obtain ⟨v3, f4, q4, q5, q6⟩ := z.2.2.at (List.getElem?_eq_getElem hn2)
          rw [e4] at q1
          injection q1 with q1
          subst q1
          rw [e5] at q4
          injection q4 with q4
          subst q4
          obtain ⟨k1, k2⟩ := pair_new (G := glo X) e2 q2 q5
          refine ⟨k1, .tup [xs[n], ys[n]], f3 ++ f4, zipD_at (List.getElem?_eq_getElem hn1) (List.getElem?_eq_getElem hn2), k2, fun c hc => ?_⟩
          rcases List.mem_append.mp hc with z | z
          · simp [q3 c z]
          · simp [q6 c z]
        · rcases List.mem_append.mp hc with z | z
          · rcases List.mem_append.mp z with y | y
            · exact sk.tr _ q1 c y
            · exact RepL.trk _ _ _ q2 c y
          · rcases List.mem_append.mp z with y | y
            · exact sk2.tr _ q3 c y
            · exact RepL.trk _ _ _ q4 c y
        · rcases List.mem_append.mp hc with z | z
          · exact (g'.prv.src c z).imp id fun ⟨i, hi, w⟩ => ⟨i, List.mem_append_left _ hi, w⟩
          · exact (g2.prv.src c z).imp id fun ⟨i, hi, w⟩ => ⟨i, List.mem_append_right _ hi, w⟩
end
end PV

namespace PV
open PySem PySem.Spec L2
section
variable {X : Cx} {W : WX} {k : Nat}
def gLIdx (ra rb : Rs) : Res Rs := match (seqOf ra.d).bind strsOf, rb.d with
  | some ns, .str x => if x ∈ ns then .ok (rsF (.int (ns.idxOf x))) else .no
  | _, _ => .no
def gLCnt (ra rb : Rs) : Res Rs := match (seqOf ra.d).bind strsOf, rb.d with
  | some ns, .str x => .ok (rsF (.int (ns.countP fun y => decide (y = x))))
  | _, _ => .no
/-- a method of a list of texts, of one text -/
def fLM (g : Rs → Rs → Res Rs) (fo f : Sto → Res Rs) : Sto → Res Rs := fun E => (fo E).bind fun ra => match (seqOf ra.d).bind strsOf with
  | some _ => (f E).bind fun rb => g ra rb
  | none => .no
theorem ev_lm {id : String} {name : Str} {apos cpos : Pos} {o e : Expr} {fo f : Sto → Res Rs} {r : V → List V → Hp → VK → Prop} {g : Rs → Rs → Res Rs} (slot : Slot "list" name id) (hty : typeOf (.builtin id) = pure (.type "method_descriptor")) (hm : MtR X id r)
    (hg : ∀ (H : Hp) (a : Addr) (ns : List Tx) (x : Tx) (ra rb : Rs) (Q : VK), (seqOf ra.d).bind strsOf = some ns → rb.d = .str x → SqL X.K H a ((ns.map mkS).map V.str) → (∀ (H0 : Hp) (F : Fp) (σ : L2.St), Out X W H0 H F σ (g ra rb) Q → r (.ref a) [.str (mkS x)] H Q))
    (hno : ∀ ra rb, (∀ x, rb.d ≠ .str x) → g ra rb = .no) (ho : Ev X W o fo) (he : Ev X W e f) (hbase : attributeBase o name X.env (eval o X.env) = eval o X.env)
    (hfew : ((backTo cpos (starEach [e] X.env)).all (fun x => !x.1) && (backToKw cpos (keywordEach [] X.env)).all (fun x => x.1.isSome) && decide (([e] : List Expr).length + ([] : List Keyword).length + (if ([] : List Keyword).isEmpty then 0 else 1) < 30)) = true)
    (hline : (apos.endLine == cpos.line) = true) (hs : starEach [e] X.env = (false, eval e X.env) :: starEach [] X.env) (hplain : (backTo cpos (starEach [] X.env)).any (·.1) = false) : Ev X W (.Call (.Attribute o name apos) [e] [] cpos) (fLM g fo f) := by
  refine ⟨weakE (pe_bm PySem.F.plainAttrs_list slot hty hm ho.pe (pa_cons he.pe pa_nil hs) hbase hfew hline hs hplain) fun σ H Q ⟨E, F, re, oo⟩ => ?_⟩
  refine seqE re (Same.refl H) oo fun ra x H1 f1 e1 s1 g1 o1 => ?_
  cases e2 : seqOf ra.d with
  | none =>
    simp only [e2, Option.bind] at o1
    exact o1.elim
  | some xs =>
    obtain ⟨a, vs, f', ex, hv, rr, z⟩ := g1.rep.seqL (seqOf_vw e2)
    cases e3 : strsOf xs with
    | none =>
      simp only [e2, Option.bind, e3] at o1
      exact o1.elim
    | some ns =>
      simp only [e2, Option.bind, e3] at o1
      obtain ⟨q1, _⟩ := strsOf_reps rr e3
      rw [q1] at hv
      subst ex
      refine ⟨.inl ⟨rfl, _, hv⟩, ?_⟩
      refine seqE (re.same s1) s1 o1 fun rb y H2 f2 e4 s2 g2 o2 => ?_
      have p := g2.rep
      by_cases hx : ∃ x, rb.d = .str x
      · obtain ⟨x, hx⟩ := hx
        rw [hx] at p
        have ey := rep_str p
        subst ey
        exact hg H2 a ns x ra rb Q (by simp only [e2, Option.bind, e3]) hx (s2.seq hv) H F σ o2
      · rw [hno ra rb fun x hx2 => hx ⟨x, hx2⟩] at o2
        exact o2.elim
theorem idx_spec : ∀ {ns : List Tx} {x : Tx}, x ∈ ns → ns[ns.idxOf x]? = some x ∧ ∀ m, m < ns.idxOf x → ∀ y, ns[m]? = some y → y ≠ x
  | n :: ns, x, h => by
    by_cases e : n = x
    · subst e
      have : (n :: ns).idxOf n = 0 := by simp
      rw [this]
      exact ⟨rfl, fun m hm => absurd hm (Nat.not_lt_zero m)⟩
    · have hx : x ∈ ns := (List.mem_cons.mp h).resolve_left fun z => e z.symm
      have : (n :: ns).idxOf x = ns.idxOf x + 1 := by
        rw [List.idxOf_cons]
        have : (n == x) = false := by simpa using e
        rw [this]
        rfl
      rw [this]
      obtain ⟨h1, h2⟩ := idx_spec hx
      refine ⟨by simpa using h1, fun m hm y hy => ?_⟩
      cases m with
      | zero =>
        cases hy
        exact e
      | succ m => exact h2 m (by omega) y (by simpa using hy)
theorem ev_lidx {apos cpos : Pos} {o e : Expr} {fo f : Sto → Res Rs} (ho : Ev X W o fo) (he : Ev X W e f) (hbase : attributeBase o "index" X.env (eval o X.env) = eval o X.env := by rfl)
    (hfew : ((backTo cpos (starEach [e] X.env)).all (fun x => !x.1) && (backToKw cpos (keywordEach [] X.env)).all (fun x => x.1.isSome) && decide (([e] : List Expr).length + ([] : List Keyword).length + (if ([] : List Keyword).isEmpty then 0 else 1) < 30)) = true := by rfl)
    (hline : (apos.endLine == cpos.line) = true := by rfl) (hs : starEach [e] X.env = (false, eval e X.env) :: starEach [] X.env := by rfl) (hplain : (backTo cpos (starEach [] X.env)).any (·.1) = false := by rfl) : Ev X W (.Call (.Attribute o "index" apos) [e] [] cpos) (fLM gLIdx fo f) := by
  refine ev_lm PySem.F.slot_list_index PySem.F.type_list_index mt_index (fun H a ns x ra rb Q e1 e2 hq H0 F σ o => ?_) (fun ra rb h => ?_) ho he hbase hfew hline hs hplain
  · unfold gLIdx at o
    simp only [e1, e2] at o
    by_cases hx : x ∈ ns
    · rw [if_pos hx] at o
      obtain ⟨h1, h2⟩ := idx_spec hx
      refine ⟨a, _, .str (mkS x), ns.idxOf x, .str (mkS x), rfl, rfl, hq, rfl, ?_, ?_, by simp [eqV], fun m z hm hz => ?_, o.flat mk_int⟩
      · rw [List.all_eq_true]
        intro v hv
        obtain ⟨y, _, rfl⟩ := List.mem_map.mp hv
        rfl
      · rw [List.map_map, List.getElem?_map, h1]
        rfl
      · rw [List.map_map, List.getElem?_map] at hz
        cases hy : ns[m]? with
        | none =>
          rw [hy] at hz
          cases hz
        | some y =>
          rw [hy] at hz
          injection hz with hz
          subst hz
          have hne := h2 m hm y hy
          show (mkS y == mkS x) = false
          exact beq_eq_false_iff_ne.mpr fun z => hne (mkS_inj z)
    · rw [if_neg hx] at o
      exact o.elim
  · unfold gLIdx
    cases (seqOf ra.d).bind strsOf with
    | none => rfl
    | some ns =>
      cases e : rb.d <;> first | rfl | exact absurd e (h _)
end
end PV

namespace PV
open PySem PySem.Spec PyProof.Rows L2
section
variable {X : Cx} {W : WX} {k : Nat}
end
end PV

namespace PV
open PySem PySem.Spec PyProof.Rows L2
section
variable {X : Cx} {W : WX} {k : Nat}
end
end PV

namespace PV
open PySem PySem.Spec PyProof.Rows L2
/-- pairs of a text and what cannot be written -/
def pairsOf : List Dat → Option (List (Tx × Dat))
  | [] => some []
  | .tup [.str k, v] :: r => if flat v then (pairsOf r).map ((k, v) :: ·) else none
  | _ => none
def dPut1 (a : List Tx × List Dat) (p : Tx × Dat) : List Tx × List Dat := if p.1 ∈ a.1 then (a.1, dRep a.1 a.2 p.1 p.2) else (a.1 ++ [p.1], a.2 ++ [p.2])
def dMerge (ps : List (Tx × Dat)) : List Tx × List Dat := ps.foldl dPut1 ([], [])
def gDict (r : Rs) : Res Rs := match r.d with
  | .dic ks ds => if flatL ds then .ok ⟨.dic ks ds, true, [], some []⟩ else .no
  | .lst xs => match pairsOf xs with
    | some ps => .ok ⟨.dic (dMerge ps).1 (dMerge ps).2, true, [], some []⟩
    | none => .no
  | _ => .no
section
variable {X : Cx} {W : WX} {k : Nat}
end
end PV

namespace PV
open PySem PySem.Spec L2
/-- an object that a slot owns, not its root: written -/
theorem R.writeIn {G : Glo} {B : Fx} {E : Sto} {σ : L2.St} {H : Hp} {F : Fp} {i : Nat} {l : Addr} {d d' : Dat} {v : V} {o : HO} (r : R G B E σ H F) (hs : slot E i = some (d, .deep)) (hl : l ∈ F i) (hv : σ[i]? = some (some v)) (wo : wrO o = true)
    (hrep : Rep G (upd H l o) d' v (F i)) : R G B (E.set i (some (d', .deep))) σ (upd H l o) F := by
  have ki : kd E i = .deep := by
    unfold kd
    rw [hs]
  have hi : i < E.length := slot_lt hs
  have lo : l ∈ Ow E F i := by
    unfold Ow
    rw [ki]
    exact hl
  have lw := r.own i l lo
  have ln : ∀ j, j ≠ i → l ∉ F j := fun j hj => r.sep i j (fun e => hj e.symm) l (ow_sw lo)
  have kp := Kp.upd (o := o) lw.1
  have wr : ∀ a, Wr H a → Wr (upd H l o) a := fun a ⟨u, e, w⟩ => by
    by_cases ha : a = l
    · subst ha
      exact ⟨o, upd_same, wo⟩
    · exact ⟨u, by rw [upd_ne ha]; exact e, w⟩
  have kk : ∀ j, kd (E.set i (some (d', Kd.deep))) j = kd E j := fun j => by
    rw [kd_set hi]
    by_cases hj : j = i
    · rw [if_pos hj, hj, ki]
    · rw [if_neg hj]
  have ow : ∀ j, Ow (E.set i (some (d', Kd.deep))) F j = Ow E F j := fun j => by
    unfold Ow
    rw [kk]
  have sw : ∀ j, Sw (E.set i (some (d', Kd.deep))) F j = Sw E F j := fun j => by
    unfold Sw
    rw [kk]
  refine ⟨⟨by rw [List.length_set]; exact r.rep.len, fun j dj kj e => ?_, fun j e => ?_⟩, fun j a ha => ?_, fun j e => ?_, fun j e => ?_, fun j m n a ha => ?_, r.pro, fun t ht => ⟨(r.pro t ht).keep [l] H _ (r.tmp t ht).1 (Kf.upd (o := o) lw.1) fun a ha => ?_, fun j a ha => ?_⟩, r.prv, fun b u e => ?_, fun j e => ?_⟩
  · rw [slot_set hi] at e
    by_cases hj : j = i
    · rw [if_pos hj] at e
      injection e with e
      injection e with e1 e2
      subst hj e1
      exact ⟨v, hv, hrep⟩
    · rw [if_neg hj] at e
      obtain ⟨w, h1, h2⟩ := r.rep.rep j dj kj e
      exact ⟨w, h1, Rep.kp kp _ _ _ h2 fun a ha z => ln j hj (by
        rw [List.mem_singleton] at z
        rw [← z]
        exact ha)⟩
  · rw [slot_set hi] at e
    by_cases hj : j = i
    · rw [if_pos hj] at e
      cases e
    · rw [if_neg hj] at e
      exact r.rep.emp j e
  · rw [ow] at ha
    have := r.own j a ha
    exact ⟨wr a this.1, this.2⟩
  · rw [kk] at e
    exact r.nod j e
  · rw [kk] at e
    exact r.rot j e
  · rw [sw] at ha
    exact r.sep j m n a ha
  · intro z
    rw [List.mem_singleton] at z
    subst z
    exact (r.tmp t ht).2 i a lo ha
  · rw [ow] at ha
    exact (r.tmp t ht).2 j a ha
  · have hb : b ≠ l := fun z => by
      subst z
      rw [lw.2] at e
      cases e
    rw [upd_ne hb]
    exact r.frm b u e
  · rw [kk] at e
    exact r.lk j e
/-- the list at x within a dict's values -/
theorem in_dict {G : Glo} {H : Hp} {x : Tx} {xs : List Dat} : ∀ {ks : List Tx} {ds : List Dat} {vs : List V} {f : List Addr}, RepL G H ds vs f → ks.length = vs.length → ks.Nodup → f.Nodup → dGet ks ds x = some (.lst xs) → flatL xs = true →
    ∃ a us, a ∈ f ∧ valV (kvOf ks vs) (Sum.inr (mkS x) : Key) = some (.ref a) ∧ H a = some (.lst us) ∧ RepL G H xs us [] ∧
      ∀ xs' us', RepL G (upd H a (.lst us')) xs' us' [] → RepL G (upd H a (.lst us')) (dRep ks ds x (.lst xs')) vs f
  | [], ds, vs, f, r, hl, nk, nf, hg, hf => by
    unfold dGet at hg
    cases hg
  | k :: ks, ds, vs, f, r, hl, nk, nf, hg, hf => by
    cases ds with
    | nil =>
      unfold dGet at hg
      cases hg
    | cons e ds =>
      simp only [RepL] at r
      obtain ⟨u, us, fh, ft, rfl, rfl, r1, r2⟩ := r
      have hl2 : ks.length = us.length := by simpa using hl
      have nk2 := List.nodup_cons.mp nk
      have nf2 := List.nodup_append.mp nf
      by_cases e1 : k = x
      · subst e1
        have e2 : e = .lst xs := by
          simp [dGet] at hg
          exact hg
        subst e2
        simp only [Rep] at r1
        obtain ⟨a, ws, f0, rfl, q1, q2, rfl⟩ := r1
        have hf0 := flat_reps q2 hf
        subst hf0
        refine ⟨a, ws, by simp, ?_, q1, q2, fun xs' us' h => ?_⟩
        · exact valV_pos rfl
        · have s1 : dRep (k :: ks) (.lst xs :: ds) k (.lst xs') = .lst xs' :: dRep ks ds k (.lst xs') := by
            show (if k = k then _ else _) :: _ = _
            rw [if_pos rfl]
          rw [s1, dRep_none nk2.1 (by rw [hl2, r2.len])]
          refine RepL.cons (by simp only [Rep]; exact ⟨a, us', [], rfl, upd_same, h, rfl⟩) ?_
          exact RepL.kp (Kp.upd (o := HO.lst us') ⟨_, q1, rfl⟩) _ _ _ r2 fun b hb z => nf2.2.2 a (by simp) b hb (by
            rw [List.mem_singleton] at z
            exact z.symm)
      · have e2 : dGet ks ds x = some (.lst xs) := by
          simp [dGet, e1] at hg
          exact hg
        obtain ⟨a, ws, h1, h2, h3, h4, h5⟩ := in_dict r2 hl2 nk2.2 nf2.2.1 e2 hf
        refine ⟨a, ws, by simp [h1], ?_, h3, h4, fun xs' us' h => ?_⟩
        · rw [← h2]
          exact valV_neg (fun z => e1 (by
            have z' : (Sum.inr (mkS k) : Key) = Sum.inr (mkS x) := z
            injection z' with z'
            exact mkS_inj z'))
        · have s1 : dRep (k :: ks) (e :: ds) x (.lst xs') = e :: dRep ks ds x (.lst xs') := by
            show (if k = x then _ else _) :: _ = _
            rw [if_neg e1]
          rw [s1]
          refine RepL.cons ?_ (h5 xs' us' h)
          exact Rep.kp (Kp.upd (o := HO.lst us') ⟨_, h3, rfl⟩) _ _ _ r1 fun b hb z => nf2.2.2 b hb a h1 (by
            rw [List.mem_singleton] at z
            exact z)
/-- what stands in slot i: a dict that the slot owns; under kr a list of what cannot be written -/
def inAt (o : Option (Dat × Kd)) (kr : Rs) : Option (List Tx × List Dat × Tx × List Dat) := match o, kr.d with
  | some (.dic ks ds, .deep), .str x => match dGet ks ds x with
    | some (.lst xs) => if flatL xs && decide ks.Nodup && decide (xs.length ≤ 1000000) then some (ks, ds, x, xs) else none
    | _ => none
  | _, _ => none
def sAppIn1 (i : Nat) (E : Sto) (kr r : Rs) : Res Fl := match inAt (slot E i) kr with
  | some (ks, ds, x, xs) => if flat r.d then .ok (.nx (E.set i (some (.dic ks (dRep ks ds x (.lst (xs ++ [r.d]))), .deep)))) else .no
  | none => .no
def sIn (g : Nat → Sto → Rs → Rs → Res Fl) (i : Nat) (fk fv : Sto → Res Rs) : Sto → Res Fl := fun E => if dicAt (slot E i) then (fk E).bind fun kr => if (inAt (slot E i) kr).isSome then (fv E).bind fun r => g i E kr r else .no else .no
abbrev sAppIn := sIn sAppIn1
def sExtIn1 (i : Nat) (E : Sto) (kr r : Rs) : Res Fl := match inAt (slot E i) kr, r.d with
  | some (ks, ds, x, xs), .lst ys => if flatL ys && decide (ys.length ≤ 1000000) then .ok (.nx (E.set i (some (.dic ks (dRep ks ds x (.lst (xs ++ ys))), .deep)))) else .no
  | _, _ => .no
abbrev sExtIn := sIn sExtIn1
theorem inAt_of {o : Option (Dat × Kd)} {kr : Rs} {ks : List Tx} {ds : List Dat} {x : Tx} {xs : List Dat} (h : inAt o kr = some (ks, ds, x, xs)) : o = some (.dic ks ds, .deep) ∧ kr.d = .str x ∧ dGet ks ds x = some (.lst xs) ∧ flatL xs = true ∧ ks.Nodup ∧ xs.length ≤ 1000000 := by
  unfold inAt at h
  split at h
  · rename_i ks' ds' x' hk
    split at h
    · rename_i xs' hg
      by_cases hc : (flatL xs' && decide ks'.Nodup && decide (xs'.length ≤ 1000000)) = true
      · rw [if_pos hc] at h
        injection h with h
        injection h with h1 h
        injection h with h2 h
        injection h with h3 h4
        subst h1 h2 h3 h4
        simp only [Bool.and_eq_true, decide_eq_true_eq] at hc
        exact ⟨rfl, hk, hg, hc.1.1, hc.1.2, hc.2⟩
      · rw [if_neg hc] at h
        cases h
    · cases h
  · cases h
section
variable {X : Cx} {W : WX} {k : Nat} {o ke e : Expr} {i : Nat} {fk f : Sto → Res Rs} {apos cpos pos p1 : Pos}
/-- the object of d[k] and what may be made of it -/
theorem in_slot {B : Fx} {E : Sto} {σ : L2.St} {H : Hp} {F : Fp} {ks : List Tx} {ds xs : List Dat} {x : Tx} (r : R (glo X) B E σ H F) (h : slot E i = some (.dic ks ds, .deep)) (nk : ks.Nodup) (hg : dGet ks ds x = some (.lst xs)) (hf : flatL xs = true) :
    ∃ l vs a us, σ[i]? = some (some (.ref l)) ∧ H l = some (.dK (kvOf ks vs)) ∧ valV (kvOf ks vs) (Sum.inr (mkS x) : Key) = some (.ref a) ∧ H a = some (.lst us) ∧ RepL (glo X) H xs us [] ∧
      ∀ xs' us', RepL (glo X) (upd H a (.lst us')) xs' us' [] → R (glo X) B (E.set i (some (.dic ks (dRep ks ds x (.lst xs')), .deep))) σ (upd H a (.lst us')) F := by
  obtain ⟨l, vs, f, y1, y2, y3, y4, y5⟩ := dic_slot r h rfl
  have ki : kd E i = .deep := by
    unfold kd
    rw [h]
  have nf := r.nod i ki
  rw [y2] at nf
  have nf2 := List.nodup_cons.mp nf
  obtain ⟨a, us, h1, h2, h3, h4, h5⟩ := in_dict y5 y4 nk nf2.2 hg hf
  refine ⟨l, vs, a, us, y1, y3, h2, h3, h4, fun xs' us' hr => ?_⟩
  refine r.writeIn h (by rw [y2]; exact List.mem_cons_of_mem _ h1) y1 rfl ?_
  rw [y2]
  simp only [Rep]
  refine ⟨l, vs, f, rfl, .inl ?_, y4, h5 xs' us' hr, rfl⟩
  rw [upd_ne (fun z => nf2.1 (by rw [z]; exact h1))]
  exact y3
theorem in_run {g : Nat → Sto → Rs → Rs → Res Fl} {B : Fx} {E : Sto} {F : Fp} {σ : L2.St} {H : Hp} {D : Ends} {Q : V → Hp → V → Hp → Prop} {Q0 : V → Hp → Prop} (C : XOk k X) (r : R (glo X) B E σ H F) (o : OutS X W B D (sIn g i fk f E))
    (h0 : ∀ a us H1, H1 a = some (.lst us) → tEv X W f σ H1 (Q (.ref a) H1) → Q0 (.ref a) H1)
    (h : ∀ (kr rs : Rs) (ks : List Tx) (ds xs : List Dat) (x : Tx) (H1 H2 : Hp) (v : V) (fp : List Addr) (a : Addr) (us : List V), inAt (slot E i) kr = some (ks, ds, x, xs) → R (glo X) B E σ H2 F → Gv (glo X) H1 F rs v H2 fp → OutS X W B D (g i E kr rs) →
      H2 a = some (.lst us) → RepL (glo X) H2 xs us [] →
      (∀ xs' us', RepL (glo X) (upd H2 a (.lst us')) xs' us' [] → R (glo X) B (E.set i (some (.dic ks (dRep ks ds x (.lst xs')), .deep))) σ (upd H2 a (.lst us')) F) → Q (.ref a) H1 v H2) :
    tDGet (tVar i) (tEv X W fk) σ H Q0 := by
  unfold sIn at o
  have hc : dicAt (slot E i) = true := Classical.byContradiction fun hc => by
    rw [if_neg hc] at o
    exact o.elim
  rw [if_pos hc] at o
  obtain ⟨ks0, ds0, k00, e0⟩ := dicAt_of hc
  obtain ⟨w0, q1, q2⟩ := r.rep.rep i _ _ e0
  simp only [Rep] at q2
  obtain ⟨l0, _, _, rfl, _⟩ := q2
  refine ⟨.ref l0, q1, ?_⟩
  refine seqS r o fun kr y H1 f1 e1 s1 g1 o1 => ?_
  cases hin : inAt (slot E i) kr with
  | none =>
    rw [hin] at o1
    exact o1.elim
  | some t =>
    obtain ⟨ks, ds, x, xs⟩ := t
    rw [hin] at o1
    have o1 : OutS X W B D ((f E).bind fun r => g i E kr r) := o1
    obtain ⟨z1, z2, z3, z4, z5, z6⟩ := inAt_of hin
    have r1 := r.same s1
    obtain ⟨l, vs, a, us, y1, y2, y3, y4, y5, _⟩ := in_slot r1 z1 z5 z3 z4
    have el : l = l0 := by
      rw [q1] at y1
      injection y1 with y1
      injection y1 with y1
      injection y1 with y1
      exact y1.symm
    subst el
    have py := g1.rep
    rw [z2] at py
    have ey := rep_str py
    subst ey
    refine ⟨l, .ref a, rfl, .inl ⟨_, Sum.inr (mkS x), .inl y2, rfl, y3.symm⟩, h0 a us H1 y4 ?_⟩
    refine seqS r1 o1 fun rs v H2 fp e2 s2 g2 o2 => ?_
    have r2 := r1.same s2
    obtain ⟨l', vs', a', us', w1, w2, w3, w4, w5, fin⟩ := in_slot r2 z1 z5 z3 z4
    have el : l' = l := by
      rw [y1] at w1
      injection w1 with w1
      injection w1 with w1
      injection w1 with w1
      exact w1.symm
    subst el
    have ea : a' = a := by
      have e := s2 _ _ y2
      rw [w2] at e
      injection e with e
      injection e with e
      rw [e, y3] at w3
      injection w3 with w3
      injection w3 with w3
      exact w3.symm
    subst ea
    exact h kr rs ks ds xs x H1 H2 v fp a' us' hin r2 g2 o2 w4 w5 fin
theorem es_appendIn (C : XOk k X) (ho : PE X o (tVar i)) (hk : Ev X W ke fk) (he : Ev X W e f) (hn : NoSl ke := by exact fun _ _ => rfl)
    (hbase : attributeBase (.Subscript o ke p1) "append" X.env (eval (.Subscript o ke p1) X.env) = eval (.Subscript o ke p1) X.env := by rfl)
    (hfew : ((backTo cpos (starEach [e] X.env)).all (fun x => !x.1) && (backToKw cpos (keywordEach [] X.env)).all (fun x => x.1.isSome) && decide (([e] : List Expr).length + ([] : List Keyword).length + (if ([] : List Keyword).isEmpty then 0 else 1) < 30)) = true := by rfl)
    (hline : (apos.endLine == cpos.line) = true := by rfl) (hs : starEach [e] X.env = (false, eval e X.env) :: starEach [] X.env := by rfl) (hplain : (backTo cpos (starEach [] X.env)).any (·.1) = false := by rfl) (hw : swapsWith (.Call (.Attribute (.Subscript o ke p1) "append" apos) [e] [] cpos) none pos.line X.env = pure false := by rfl) :
    Es X W (.Expr (.Call (.Attribute (.Subscript o ke p1) "append" apos) [e] [] cpos) pos) (sAppIn i fk f) := by
  refine ⟨weakS (ps_expr (pe_bm PySem.F.plainAttrs_list PySem.F.slot_list_append PySem.F.type_list_append mt_append (pe_dget C.hu ho hk.pe hn) (pa_cons he.pe pa_nil hs) hbase hfew hline hs hplain) hw) fun D σ H ⟨B, E, F, r, o⟩ => ?_⟩
  refine in_run (Q := fun x _ v H2 => rAppend x [v] H2 fun _ H1 => D.nx σ H1) C r o (fun a us H1 q z => ⟨.inl ⟨rfl, us, .inl (.inl q)⟩, z⟩) ?_
  intro kr rs ks ds xs x H1 H2 v fp a us hin r2 g2 o2 w4 w5 fin
  obtain ⟨z1, z2, z3, z4, z5, z6⟩ := inAt_of hin
  unfold sAppIn1 at o2
  rw [hin] at o2
  simp only at o2
  by_cases hf : flat rs.d = true
  · rw [if_pos hf] at o2
    have p2 := g2.rep
    have ef := Rep.flat _ _ _ p2 hf
    subst ef
    refine ⟨a, us, v, rfl, rfl, w4, by rw [w5.len]; exact size_lt z6, ?_⟩
    refine o2 σ _ _ (fin _ _ ?_)
    have kp := Kp.upd (o := HO.lst (us ++ [v])) (H := H2) (a := a) ⟨_, w4, rfl⟩
    have := (RepL.kp kp _ _ _ w5 (fun _ z => nomatch z)).app (RepL.one (Rep.kp kp _ _ _ p2 (fun _ z => nomatch z)))
    simpa using this
  · rw [if_neg hf] at o2
    exact o2.elim
theorem es_extendIn (C : XOk k X) (ho : PE X o (tVar i)) (hk : Ev X W ke fk) (he : Ev X W e f) (hn : NoSl ke := by exact fun _ _ => rfl)
    (hbase : attributeBase (.Subscript o ke p1) "extend" X.env (eval (.Subscript o ke p1) X.env) = eval (.Subscript o ke p1) X.env := by rfl)
    (hfew : ((backTo cpos (starEach [e] X.env)).all (fun x => !x.1) && (backToKw cpos (keywordEach [] X.env)).all (fun x => x.1.isSome) && decide (([e] : List Expr).length + ([] : List Keyword).length + (if ([] : List Keyword).isEmpty then 0 else 1) < 30)) = true := by rfl)
    (hline : (apos.endLine == cpos.line) = true := by rfl) (hs : starEach [e] X.env = (false, eval e X.env) :: starEach [] X.env := by rfl) (hplain : (backTo cpos (starEach [] X.env)).any (·.1) = false := by rfl) (hw : swapsWith (.Call (.Attribute (.Subscript o ke p1) "extend" apos) [e] [] cpos) none pos.line X.env = pure false := by rfl) :
    Es X W (.Expr (.Call (.Attribute (.Subscript o ke p1) "extend" apos) [e] [] cpos) pos) (sExtIn i fk f) := by
  refine ⟨weakS (ps_expr (pe_bm PySem.F.plainAttrs_list PySem.F.slot_list_extend PySem.F.type_list_extend mt_extend (pe_dget C.hu ho hk.pe hn) (pa_cons he.pe pa_nil hs) hbase hfew hline hs hplain) hw) fun D σ H ⟨B, E, F, r, o⟩ => ?_⟩
  refine in_run (Q := fun x _ v H2 => rExtend x [v] H2 fun _ H1 => D.nx σ H1) C r o (fun a us H1 q z => ⟨.inl ⟨rfl, us, .inl (.inl q)⟩, z⟩) ?_
  intro kr rs ks ds xs x H1 H2 v fp a us hin r2 g2 o2 w4 w5 fin
  obtain ⟨z1, z2, z3, z4, z5, z6⟩ := inAt_of hin
  have p2 := g2.rep
  unfold sExtIn1 at o2
  rw [hin] at o2
  cases ed : rs.d <;> simp only [ed] at o2 <;> first | exact o2.elim | skip
  rename_i zs
  have hl : (flatL zs && decide (zs.length ≤ 1000000)) = true := Classical.byContradiction fun hl => by
    rw [if_neg hl] at o2
    exact o2.elim
  rw [if_pos hl] at o2
  simp only [Bool.and_eq_true, decide_eq_true_eq] at hl
  rw [ed] at p2
  simp only [Rep] at p2
  obtain ⟨b, vs2, f2, rfl, q3, q4, _⟩ := p2
  have hf2 := flat_reps q4 hl.1
  subst hf2
  refine ⟨a, b, us, vs2, rfl, rfl, w4, q3, (by
    rw [w5.len, q4.len]
    have : sizeLine = 16777216 := by decide
    omega), ?_⟩
  refine o2 σ _ _ (fin _ _ ?_)
  have kp := Kp.upd (o := HO.lst (us ++ vs2)) (H := H2) (a := a) ⟨_, w4, rfl⟩
  have := (RepL.kp kp _ _ _ w5 (fun _ z => nomatch z)).app (RepL.kp kp _ _ _ q4 (fun _ z => nomatch z))
  simpa using this
end
end PV

namespace PV
open PySem PySem.Spec L2
def iKeysF (i : Nat) : Sto → Res (List Dat × List Nat) := fun E => match slot E i with
  | some (.dic ks _, _) => .ok (ks.map Dat.str, [i])
  | _ => .no
theorem iKeysF_ok {i : Nat} {E : Sto} {p : List Dat × List Nat} (h : iKeysF i E = .ok p) : ∃ ks ds k, slot E i = some (.dic ks ds, k) ∧ p = (ks.map Dat.str, [i]) := by
  unfold iKeysF at h
  split at h
  · rename_i ks ds k e
    injection h with h
    exact ⟨ks, ds, k, e, h.symm⟩
  · cases h
theorem iKeysF_exc {i : Nat} {E : Sto} {c : Tx} : iKeysF i E ≠ .exc c := by
  intro h
  unfold iKeysF at h
  split at h <;> cases h
theorem sto_ext {A B : Sto} (l : A.length = B.length) (h : ∀ j, slot A j = slot B j) : A = B := by
  refine List.ext_getElem l fun j h1 h2 => ?_
  have := h j
  unfold slot at this
  rw [List.getElem?_eq_getElem h1, List.getElem?_eq_getElem h2] at this
  exact this
theorem downE_idem {E : Sto} {m : List Nat} : downE (downE E m) m = downE E m := by
  refine sto_ext downE_len fun j => ?_
  rw [downE_at, downE_at]
  by_cases h : j ∈ m
  · rw [if_pos h, if_pos h]
    cases slot E j <;> rfl
  · rw [if_neg h]
/-- the dict at slot i is locked -/
def Frz (i : Nat) (σ : L2.St) (H : Hp) : Prop := ∃ d o kvs, σ[i]? = some (some (.ref d)) ∧ H d = some (.frz o (.dK kvs))
theorem kv_at {ks : List Tx} {vs : List V} {n : Nat} {k : Key} {v : V} (l : ks.length = vs.length) (h : (kvOf ks vs)[n]? = some (k, v)) : ∃ x, ks[n]? = some x ∧ kV k = V.str (mkS x) := by
  have e := congrArg (fun l : List V => l[n]?) (kv_keys l)
  simp only [List.getElem?_map, h] at e
  cases hk : ks[n]? with
  | none =>
    rw [hk] at e
    cases e
  | some x =>
    rw [hk] at e
    simp at e
    exact ⟨x, rfl, e⟩
section
variable {X : Cx} {W : WX} {k : Nat}
theorem itok_keys {G : Glo} {H0 H : Hp} {F : Fp} {d : Addr} {o : Obj} {ks : List Tx} {vs : List V} {src : List Nat} (l : ks.length = vs.length) (h : H d = some (.frz o (.dK (kvOf ks vs)))) :
    ItOk G H0 F (ks.map Dat.str) src (Itk d o (kvOf ks vs)) H [] (fun H => H d = some (.frz o (.dK (kvOf ks vs)))) := by
  refine ⟨h, ?_, fun W H H' g kf _ => kf.frz _ _ _ g, (fun _ _ _ z => nomatch z), (fun _ z => nomatch z), fun H H' d2 od kvs g e g' e' => ?_⟩
  · have w := walk_keys (d := d) (o := o) (kvs := kvOf ks vs)
    rw [kvOf_len l, ← List.length_map (f := Dat.str) (as := ks)] at w
    refine w.mono (fun H z => z) fun n H x H' hn z y => ?_
    obtain ⟨e1, k, v, e2, e3⟩ := y
    subst e1 e3
    obtain ⟨x, e4, e5⟩ := kv_at l e2
    rw [e5]
    exact ⟨Same.refl _, .str x, [], by rw [List.getElem?_map, e4]; rfl, mk_str, (fun _ z => nomatch z)⟩
  · have hd : d ≠ d2 := fun z => by
      rw [z, e] at g
      cases g
    rw [upd_ne hd]
    exact g'
theorem keys_weak {i : Nat} {σ : L2.St} {H : Hp} {R : It → Hp → Prop} (z : Frz i σ H) (h : tEi X W (iKeysF i) σ H R) : iKeys (tVar i) σ H R := by
  obtain ⟨E, F, re, o⟩ := h
  obtain ⟨d, ob, kvs, hσ, hd⟩ := z
  cases e0 : iKeysF i E with
  | no =>
    rw [e0] at o
    exact o.elim
  | exc c => exact absurd e0 iKeysF_exc
  | ok p =>
    obtain ⟨ks, ds, kk, e1, rfl⟩ := iKeysF_ok e0
    rw [e0] at o
    obtain ⟨v, h1, h2⟩ := re.rep i _ _ e1
    simp only [Rep] at h2
    obtain ⟨a, vs, f, rfl, hr, hl, rl, ef⟩ := h2
    have ea : a = d := by
      rw [hσ] at h1
      injection h1 with h1
      injection h1 with h1
      injection h1 with h1
      exact h1.symm
    subst ea
    have ek : kvs = kvOf ks vs := by
      rcases hr with hr | ⟨o', hr⟩
      · rw [hd] at hr
        cases hr
      · rw [hd] at hr
        injection hr with hr
        injection hr with _ hr
        injection hr
    subst ek
    exact ⟨.ref a, hσ, a, ob, rfl, .inl ⟨_, hd, o _ H [] _ (Same.refl H) (itok_keys hl hd)⟩⟩
def Fx.lck (B : Fx) (d : Addr) (od : Obj) (kvs : List (Key × V)) : Fx := ⟨B.H0, d :: B.Lk, (fun H => H d = some (.frz od (.dK kvs)), []) :: B.T, B.P, B.L⟩
theorem Prot.frz {d : Addr} {od : Obj} {kvs : List (Key × V)} : Prot (fun H => H d = some (.frz od (.dK kvs)), []) :=
  ⟨fun W H H' g kf _ => kf.frz _ _ _ g, (fun _ _ _ z => nomatch z), fun H H' d2 od2 kvs2 g e g' e' => by
    have hd : d ≠ d2 := fun z => by
      have g : H d = some (.frz od (.dK kvs)) := g
      rw [z, e] at g
      cases g
    show (L2.upd H' d2 (.dK kvs2)) d = _
    rw [upd_ne hd]
    exact g'⟩
theorem R.lck {G : Glo} {B : Fx} {E : Sto} {σ : L2.St} {H : Hp} {F : Fp} {i : Nat} {d : Addr} {f : List Addr} {od : Obj} {kvs : List (Key × V)} (r : R G B E σ H F) (hF : F i = d :: f) (hd : H d = some (.dK kvs)) :
    R G (B.lck d od kvs) (downE E [i]) σ (L2.upd H d (.frz od (.dK kvs))) F := by
  have r1 := r.down [i]
  have kf := Kf.lck (od := od) hd
  have nd : ∀ j, d ∉ Ow (downE E [i]) F j := fun j z => by
    unfold Ow at z
    rw [kd_down] at z
    by_cases h : j ∈ [i]
    · simp [h, owK] at z
    · rw [if_neg h] at z
      exact r.sep j i (fun e => h (by simp [e])) d (ow_sw (show d ∈ Ow E F j from z)) (by rw [hF]; exact List.mem_cons_self)
  have neh : ∀ b o, H b = some o → o ≠ .dK kvs → b ≠ d := fun b o e n z => by
    rw [z, hd] at e
    injection e with e
    exact n e.symm
  refine ⟨r1.rep.kp kf.kp (fun _ _ _ => by simp), fun j a ha => ⟨?_, (r1.own j a ha).2⟩, r1.nod, r1.rot, r1.sep, fun t ht => (List.mem_cons.mp ht).elim (fun e => e ▸ Prot.frz) (r1.pro t), fun t ht => ?_, r1.prv, fun b o e => ?_, r1.lk⟩
  · obtain ⟨u, e, w⟩ := (r1.own j a ha).1
    exact ⟨u, by rw [upd_ne (fun z => nd j (by rw [← z]; exact ha))]; exact e, w⟩
  · rcases List.mem_cons.mp ht with q | q
    · subst q
      exact ⟨upd_same, fun _ _ _ z => nomatch z⟩
    · exact ⟨(r1.pro t q).keep [] _ _ (r1.tmp t q).1 kf (fun _ _ => by simp), (r1.tmp t q).2⟩
  · rcases r1.frm b o e with q | ⟨q1, ob, q2⟩
    · by_cases hb : b = d
      · subst hb
        rw [hd] at q
        injection q with q
        subst q
        exact .inr ⟨List.mem_cons_self, od, upd_same⟩
      · exact .inl (by rw [upd_ne hb]; exact q)
    · exact .inr ⟨List.mem_cons_of_mem _ q1, ob, by rw [upd_ne (neh b _ q2 (fun z => nomatch z))]; exact q2⟩
theorem Frm.unl {B : Fx} {H H' : Hp} {d : Addr} {od : Obj} {kvs : List (Key × V)} (f0 : Frm B H) (hd : H d = some (.dK kvs)) (f : Frm (B.lck d od kvs) H') (hd' : H' d = some (.frz od (.dK kvs))) : Frm B (L2.upd H' d (.dK kvs)) := by
  intro b o e
  by_cases hb : b = d
  · subst hb
    rcases f0 b o e with q | ⟨_, ob, q⟩
    · rw [hd] at q
      injection q with q
      subst q
      exact .inl upd_same
    · rw [hd] at q
      cases q
  · rw [upd_ne hb]
    rcases f b o e with q | ⟨q1, ob, q2⟩
    · exact .inl q
    · exact .inr ⟨(List.mem_cons.mp q1).resolve_left hb, ob, q2⟩
theorem wr_unl {H' : Hp} {d a : Addr} {od : Obj} {kvs : List (Key × V)} (hd' : H' d = some (.frz od (.dK kvs))) (w : Wr H' a) : Wr (L2.upd H' d (.dK kvs)) a := by
  obtain ⟨u, e, w⟩ := w
  refine ⟨u, ?_, w⟩
  rw [upd_ne (fun z => by
    rw [z, hd'] at e
    injection e with e
    subst e
    cases w)]
  exact e
theorem R.unl {G : Glo} {B : Fx} {E E' : Sto} {σ σ' : L2.St} {H H' : Hp} {F F' : Fp} {d : Addr} {od : Obj} {kvs : List (Key × V)} (r : R G B E σ H F) (hd : H d = some (.dK kvs)) (r' : R G (B.lck d od kvs) E' σ' H' F') :
    H' d = some (.frz od (.dK kvs)) ∧ R G B E' σ' (L2.upd H' d (.dK kvs)) F' := by
  have hd' : H' d = some (.frz od (.dK kvs)) := (r'.tmp _ List.mem_cons_self).1
  refine ⟨hd', r'.rep.kp (Kp.unl hd') (fun _ _ _ => by simp), fun j a ha => ⟨wr_unl hd' (r'.own j a ha).1, (r'.own j a ha).2⟩, r'.nod, r'.rot, r'.sep, r.pro, fun t ht => ⟨?_, (r'.tmp t (List.mem_cons_of_mem _ ht)).2⟩, r'.prv, r.frm.unl hd r'.frm hd', r'.lk⟩
  exact (r.pro t ht).unl H H' d od kvs (r.tmp t ht).1 hd (r'.tmp t (List.mem_cons_of_mem _ ht)).1 hd'
theorem post_unl {G : Glo} {B : Fx} {E : Sto} {σ : L2.St} {H H' : Hp} {F : Fp} {d : Addr} {od : Obj} {kvs : List (Key × V)} {x : Dat} {dp : Bool} {v : V} (r : R G B E σ H F) (hd : H d = some (.dK kvs)) (p : RPost G (B.lck d od kvs) x dp v H') :
    H' d = some (.frz od (.dK kvs)) ∧ RPost G B x dp v (L2.upd H' d (.dK kvs)) := by
  obtain ⟨fp, h1, h2, h3, h4, h5⟩ := p
  have hd' : H' d = some (.frz od (.dK kvs)) := h5 _ List.mem_cons_self
  refine ⟨hd', fp, Rep.kp (Kp.unl hd') _ _ _ h1 (fun _ _ => by simp), fun z => ⟨(h2 z).1, fun a ha => ⟨wr_unl hd' ((h2 z).2 a ha).1, ((h2 z).2 a ha).2⟩⟩, h3, r.frm.unl hd h4 hd', fun t ht => ?_⟩
  exact (r.pro t ht).unl H H' d od kvs (r.tmp t ht).1 hd (h5 t (List.mem_cons_of_mem _ ht)) hd'
theorem ps_orS {st : Stmt} {t u : TS} (a : PS X st t) (b : PS X st u) : PS X st (fun D σ H => t D σ H ∨ u D σ H) := ⟨fun pins s σ H D I h => h.elim (a.run pins s σ H D I) (b.run pins s σ H D I)⟩
def sForD (T : Tgt) (i : Nat) (g : Sto → Res Fl) : Sto → Res Fl := fun E => match sFor T (iKeysF i) g E with
  | .exc _ => .no
  | r => r
theorem es_forD (po : PassesOwn (model X.prog X.w) X.A X.env X.xe) (C : XOk k X) (i : Nat) {T : Tgt} {tg : Expr} {x : Str} {p pos : Pos} {body : List Stmt} {g : Sto → Res Fl} (hg : PG X tg (gT X.K T)) (hb : Ess X W body g)
    (hN : X.N[i]? = some x := by rfl) (hv : Vis X.env.scope x := by first | exact Or.inl rfl | exact Or.inr (Or.inl rfl) | exact Or.inr (Or.inr rfl)) (hd : (x == ("__debug__" : Str)) = false := by decide) (hcd : (x == ("__classdict__" : Str)) = false := by decide)
    (hs : ∀ y, foldedSetIterable (.Name x p) X.env y = pure y := by intro _; rfl) : Es X W (.For tg (.Name x p) body [] pos) (sForD T i g) := by
  have base := ps_for po C.calm (pi_keys (tg := tg) (p_var (X := X) (pos := p) i hN hv hd hcd)) hg hb.pss hs (pos := pos)
  refine ⟨weakS (ps_orS (ps_lock base) base) fun D σ H ⟨B, E, F, r, o⟩ => ?_⟩
  unfold sForD at o
  cases e : sFor T (iKeysF i) g E with
  | no =>
    simp only [e] at o
    exact o.elim
  | exc c =>
    simp only [e] at o
    exact o.elim
  | ok fl =>
    simp only [e] at o
    have e0 : ∃ ks ds kk, slot E i = some (.dic ks ds, kk) := by
      unfold sFor at e
      cases e1 : iKeysF i E with
      | no =>
        rw [e1] at e
        cases e
      | exc c => exact absurd e1 iKeysF_exc
      | ok q =>
        obtain ⟨ks, ds, kk, e2, _⟩ := iKeysF_ok e1
        exact ⟨ks, ds, kk, e2⟩
    obtain ⟨ks, ds, kk, e0⟩ := e0
    obtain ⟨v, h1, h2⟩ := r.rep.rep i _ _ e0
    simp only [Rep] at h2
    obtain ⟨d, vs, f, rfl, hr, hl, rl, ef⟩ := h2
    rcases hr with hr | ⟨ob, hr⟩
    · left
      refine ⟨d, .dK (kvOf ks vs), hr, trivial, fun od => ?_⟩
      refine keys_weak (X := X) (W := W) ⟨d, od, _, h1, upd_same⟩ (for_weak _ σ _ ⟨B.lck d od (kvOf ks vs), downE E [i], F, r.lck ef hr, ?_⟩)
      have e3 : sFor T (iKeysF i) g (downE E [i]) = .ok fl := by
        rw [← e]
        unfold sFor
        have e4 : iKeysF i (downE E [i]) = iKeysF i E := by
          unfold iKeysF
          rw [downE_at, if_pos (by simp), e0]
          rfl
        have e5 : iKeysF i E = .ok (ks.map Dat.str, [i]) := by
          unfold iKeysF
          rw [e0]
        rw [e4, e5]
        simp only [bind_ok, downE_idem]
      rw [e3]
      cases fl with
      | nx E' => exact fun σ' H' F' r' => ⟨(r.unl hr r').1, o σ' _ F' (r.unl hr r').2⟩
      | bk E' => exact fun σ' H' F' r' => ⟨(r.unl hr r').1, o σ' _ F' (r.unl hr r').2⟩
      | ct E' => exact fun σ' H' F' r' => ⟨(r.unl hr r').1, o σ' _ F' (r.unl hr r').2⟩
      | rt x dp => exact fun v H' p => ⟨(post_unl r hr p).1, o v _ (post_unl r hr p).2⟩
    · right
      exact keys_weak (X := X) (W := W) ⟨d, ob, _, h1, hr⟩ (for_weak _ σ _ ⟨B, E, F, r, by rw [e]; exact o⟩)
theorem lock_comp {T : Tgt} {own : List Nat} {i : Nat} {ft : Sto → Res Bool} {fe : Sto → Res Rs} (hT : ∀ i ∈ slotsT T, i ∈ own) {σ : L2.St} {H : Hp} {Q : VK} (h : tEv X W (fComp T own (iKeysF i) ft fe) σ H Q) :
    tLockE (tLc (iKeys (tVar i)) (gT X.K T) (tEt X Wn ft) (tEv X Wn fe) own) σ H Q ∨ tLc (iKeys (tVar i)) (gT X.K T) (tEt X Wn ft) (tEv X Wn fe) own σ H Q := by
  obtain ⟨E, F, re, o⟩ := h
  cases e : fComp T own (iKeysF i) ft fe E with
  | no =>
    rw [e] at o
    exact o.elim
  | exc c =>
    exfalso
    unfold fComp at e
    cases e1 : iKeysF i E with
    | no =>
      rw [e1] at e
      cases e
    | exc c => exact iKeysF_exc e1
    | ok p =>
      rw [e1] at e
      simp only [bind_ok] at e
      split at e
      · split at e <;> cases e
      · cases e
  | ok rs =>
    have e0 : ∃ ks ds kk, slot E i = some (.dic ks ds, kk) := by
      unfold fComp at e
      cases e1 : iKeysF i E with
      | no =>
        rw [e1] at e
        cases e
      | exc c => exact absurd e1 iKeysF_exc
      | ok q =>
        obtain ⟨ks, ds, kk, e2, _⟩ := iKeysF_ok e1
        exact ⟨ks, ds, kk, e2⟩
    obtain ⟨ks, ds, kk, e0⟩ := e0
    obtain ⟨v, h1, h2⟩ := re.rep i _ _ e0
    simp only [Rep] at h2
    obtain ⟨d, vs, f, rfl, hr, hl, rl, ef⟩ := h2
    rcases hr with hr | ⟨ob, hr⟩
    · left
      refine ⟨d, .dK (kvOf ks vs), hr, trivial, fun od => ?_⟩
      have kf := Kf.lck (od := od) hr
      suffices hc : tEv X W (fComp T own (iKeysF i) ft fe) σ (L2.upd H d (.frz od (.dK (kvOf ks vs)))) (fun v H' => H' d = some (.frz od (.dK (kvOf ks vs))) ∧ Q v (L2.upd H' d (.dK (kvOf ks vs)))) from
        keys_weak (X := X) (W := W) ⟨d, od, _, h1, upd_same⟩ (comp_lc hT hc)
      refine ⟨E, F, re.kp kf.kp (fun _ _ _ => by simp), ?_⟩
      rw [e] at o ⊢
      intro v H' fp sL g
      have hd' : H' d = some (.frz od (.dK (kvOf ks vs))) := sL _ _ upd_same
      have fr : ∀ a, (L2.upd H d (.frz od (.dK (kvOf ks vs)))) a = none → H a = none := fun a z => by
        by_cases ha : a = d
        · subst ha
          rw [upd_same] at z
          cases z
        · rw [upd_ne ha] at z
          exact z
      refine ⟨hd', o v _ fp (fun b u eb => ?_) ⟨Rep.kp (Kp.unl hd') _ _ _ g.rep (fun _ _ => by simp), fun a ha => (g.prv.src a ha).imp (fr a) id, fun z => ?_, fun m em => ?_⟩⟩
      · by_cases hb : b = d
        · subst hb
          rw [hr] at eb
          rw [← eb]
          exact upd_same
        · rw [upd_ne hb]
          exact sL _ _ (by rw [upd_ne hb]; exact eb)
      · obtain ⟨a, f', q1, q2, q3, q4⟩ := g.prv.rt z
        exact ⟨a, f', q1, fr a q2, wr_unl hd' q3, q4⟩
      · obtain ⟨frs, q1, q2, q3⟩ := g.prv.mv m em
        exact ⟨frs, q1, q2, fun a ha => ⟨fr a (q3 a ha).1, wr_unl hd' (q3 a ha).2⟩⟩
    · right
      have hc : tEv X W (fComp T own (iKeysF i) ft fe) σ H Q := ⟨E, F, re, o⟩
      exact keys_weak (X := X) (W := W) ⟨d, ob, _, h1, hr⟩ (comp_lc hT hc)
/-- [elt for target in d if test] -/
structure CompOkD (X : Cx) (T : Tgt) (own : List (Str × Nat)) (elt tg : Expr) (ifs : List Expr) (scope : Scope) (ft : Sto → Res Bool) (fe : Sto → Res Rs) : Prop where
  sub : ∀ i ∈ slotsT T, i ∈ own.map (·.2)
  blk : BlkOk X.N X.env.scope scope own
  tgt : ∀ (s : Shared) (H : Hp) (C : Addr) (cl : List (Str × Addr)) (fp : List Addr), PG (X.blk s H scope (compEnvC scope cl C X.env) fp) tg (gT X.K T)
  tst : ∀ (s : Shared) (H : Hp) (C : Addr) (cl : List (Str × Addr)) (fp : List Addr), PTs (X.blk s H scope (compEnvC scope cl C X.env) fp) ifs (tEt X Wn ft)
  elt : ∀ (s : Shared) (H : Hp) (C : Addr) (cl : List (Str × Addr)) (fp : List Addr), PE (X.blk s H scope (compEnvC scope cl C X.env) fp) elt (tEv X Wn fe)
theorem ev_compD (C : XOk k X) (i : Nat) {T : Tgt} {own : List (Str × Nat)} {elt tg : Expr} {x : Str} {p : Pos} {ifs : List Expr} {scope : Scope} {pos : Pos} {ft : Sto → Res Bool} {fe : Sto → Res Rs} (c : CompOkD X T own elt tg ifs scope ft fe)
    (hN : X.N[i]? = some x := by rfl) (hv : Vis X.env.scope x := by first | exact Or.inl rfl | exact Or.inr (Or.inl rfl) | exact Or.inr (Or.inr rfl)) (hd : (x == ("__debug__" : Str)) = false := by decide) (hcd : (x == ("__classdict__" : Str)) = false := by decide)
    (hs : ∀ y, foldedSetIterable (.Name x p) X.env y = pure y := by intro _; rfl) : Ev X W (.ListComp elt [⟨tg, .Name x p, ifs, 0⟩] scope pos) (fComp T (own.map (·.2)) (iKeysF i) ft fe) := by
  have base := pe_lc C.calm C.nd (pi_keys (tg := tg) (p_var (X := X) (pos := p) i hN hv hd hcd)) c.blk c.tgt c.tst c.elt hs (pos := pos)
  exact ⟨weakE (pe_orE (pe_lock base) base) fun σ H Q h => lock_comp c.sub h⟩
end
end PV

namespace PV
open PySem PySem.Spec L2
section
variable {X : Cx} {W : WX} {k : Nat}
abbrev rNe0 : R2 := fun x y H Q => ∃ (a b : Addr) (ks : List (Key × V)), x = V.ref a ∧ y = V.ref b ∧ Rd H a (.dK ks) ∧ Rd H b (.dK []) ∧ Q (.bl (!decide (ks.length = 0))) H
theorem op_ne0 (hu : X.A.units < cLine) : OpR X (compareOp .NotEq) rNe0 := by
  intro pins s σ H x y v u Q I rx ry h
  obtain ⟨a, b, ks, rfl, rfl, ea, eb, q⟩ := h
  obtain rfl : v = Value.ref a := rx
  obtain rfl : u = Value.ref b := ry
  obtain ⟨_, ya, va, ra, da⟩ := dk_rd I.hok ea
  obtain ⟨_, yb, vb, rb, db⟩ := dk_rd I.hok eb
  have h0 : vb = [] := by
    cases rb
    rfl
  subst h0
  have hl : ks.length = va.length := ra.length
  refine PySem.W.keq_ne (knd := mixKind X.prog X.w) (r := true) ya yb da db hu (fun h => ?_) (fin_bl I q ?_)
  · have : va = [] := List.eq_nil_of_length_eq_zero h
    subst this
    exact .nil
  · rw [hl]
    cases va <;> simp
def gNe0 (ra rb : Rs) : Res Rs := match ra.d, rb.d with
  | .dic ks _, .dic [] _ => .ok (rsF (.bl (!decide (ks = []))))
  | _, _ => .no
theorem ops_ne0 : OpS X rNe0 gNe0 := by
  intro W H0 H F σ ra rb x y fa fb Q s0 tr ga gb o
  have pa := ga.rep
  have pb := gb.rep
  unfold gNe0 at o
  cases ea : ra.d <;> simp only [ea] at o <;> first | exact o.elim | skip
  rename_i ks ds
  cases eb : rb.d <;> simp only [eb] at o <;> first | exact o.elim | skip
  rename_i ks2 ds2
  cases ks2 with
  | cons _ _ => exact o.elim
  | nil =>
    rw [ea] at pa
    rw [eb] at pb
    simp only [Rep] at pa pb
    obtain ⟨a, vs, f, rfl, hr, hl, _, _⟩ := pa
    obtain ⟨b, us, g, rfl, hr2, hl2, _, _⟩ := pb
    refine ⟨a, b, _, rfl, rfl, hr, ?_, ?_⟩
    · cases us with
      | nil => exact hr2
      | cons _ _ => simp at hl2
    · rw [kvOf_len hl]
      have e : (!decide (ks.length = 0)) = !decide (ks = []) := by cases ks <;> simp
      rw [e]
      exact o.flat mk_bl
variable {a b : Expr} {pos : Pos} {fa fb : Sto → Res Rs}
theorem et_ne0 (C : XOk k X) (ha : Ev X W a fa) (hb : Ev X W b fb) : Et X W (.Compare a [.NotEq] [b] pos) (tOf (fBin gNe0 fa fb)) := et_cmp (op_ne0 (by have := C.hu; omega)) ops_ne0 ha hb (nomark _)
end
end PV

namespace PV
open PySem PySem.Spec L2
section
variable {X : Cx} {W : WX} {k : Nat}
end
end PV

namespace PV
open PySem PySem.Spec L2
def Ends.stay (D : Ends) (σ : L2.St) : Ends := { D with nx := fun σ' H' => σ' = σ → D.nx σ' H' }
section
variable {X : Cx} {W : WX} {k : Nat} {o : Expr} {i : Nat} {pos : Pos}
/-- d[k] = v: the names stay -/
theorem put_stay (C : XOk k X) {ke value : Expr} {pos' : Pos} {fk fv : Sto → Res Rs} (ho : PE X o (tVar i)) (hk : Ev X W ke fk) (hv : Ev X W value fv) (hs : swapsWith value (some (.Subscript o ke pos')) pos.line X.env = pure false := by rfl) :
    PS X (.Assign [.Subscript o ke pos'] value pos) (fun D σ H => ∃ B E F, R (glo X) B E σ H F ∧ OutS X W B (Ends.stay D σ) (sPut i fk fv E)) := by
  refine weakS (ps_dput C.hu ho hk.pe hv.pe hs) fun D σ H ⟨B, E, F, r, o⟩ => ?_
  unfold sPut at o
  have hc : dicAt (slot E i) = true := Classical.byContradiction fun hc => by
    rw [if_neg hc] at o
    exact o.elim
  rw [if_pos hc] at o
  obtain ⟨ks0, ds0, k00, e0⟩ := dicAt_of hc
  refine seqS r o fun rs v H1 fp e1 s1 g1 o1 => ?_
  obtain ⟨w0, q1, q2⟩ := r.rep.rep i _ _ e0
  simp only [Rep] at q2
  obtain ⟨l0, _, _, rfl, _⟩ := q2
  refine ⟨.ref l0, q1, ?_⟩
  refine seqS (r.same s1) o1 fun kr y H2 f2 e2 s2 g2 o2 => ?_
  have pk := g2.rep
  unfold sPut1 at o2
  cases ed : kr.d <;> simp only [ed] at o2 <;> first | exact o2.elim | skip
  rename_i x
  rw [ed] at pk
  have ey := rep_str pk
  subst ey
  obtain ⟨d0, k0, d', E1, F1, k2, z1, z2, z3, r1, h1, fin⟩ := mut_run r (s1.trans s2) (g1.same s2) o2
  cases d0 with
  | dic ks ds =>
    obtain ⟨l, vs, f', y1, y2, y3, y4, y5⟩ := dic_slot r1 z1 z2
    have el : l = l0 := by
      rw [q1] at y1
      injection y1 with y1
      injection y1 with y1
      injection y1 with y1
      exact y1.symm
    subst el
    have ki : kd E1 i = k0 := by
      unfold kd
      rw [z1]
    obtain ⟨lo, lf⟩ := root_of r1 (by rw [ki]; exact z2) y2
    obtain ⟨f3, g3, p1, p2, p3⟩ := put_obj z3 y4 y3 y5 h1.rep lf (h1.sp2 i l (ow_sw lo))
    refine ⟨l, _, rfl, DPut.k (k := Sum.inr (mkS x)) y3 p3, ?_⟩
    exact fin (.ref l) l f' f3 _ y2 y1 rfl (fun a ha => List.mem_append.mp (p2.mem_iff.mp (List.mem_append_right _ ha))) (fun n => (List.nodup_append.mp (p2.nodup_iff.mpr n)).2.1) (fun n1 n2 => p1) rfl
  | _ =>
    unfold gPut at z3
    simp only at z3
    cases z3
end
def sPutEach (i j t : Nat) (c : Dat) : Sto → Res Fl := fun E => match slot E i with
  | some (.lst xs, .deep) => if i ≠ j ∧ i ≠ t ∧ flatL xs = true then forGo (.one t) (sPut j (fVar t) (fC c)) xs E else .no
  | _ => .no
theorem put_slot {j : Nat} {fk : Sto → Res Rs} {c : Dat} {E : Sto} {fl : Fl} (e : sPut j fk (fC c) E = .ok fl) : ∃ E', fl = .nx E' ∧ ∀ m, m ≠ j → slot E' m = slot E m := by
  unfold sPut at e
  by_cases hc : dicAt (slot E j) = true
  · rw [if_pos hc] at e
    have e : ((fk E).bind fun kr => sPut1 j E (rsF c) kr) = .ok fl := e
    cases ek : fk E with
    | no =>
      rw [ek] at e
      cases e
    | exc c =>
      rw [ek] at e
      cases e
    | ok kr =>
      rw [ek] at e
      have e : sPut1 j E (rsF c) kr = .ok fl := e
      unfold sPut1 at e
      split at e
      · rename_i x _
        unfold sMut1 at e
        have tk : PV.take false (rsF c) E = (E, .deep) := rfl
        rw [tk] at e
        simp only at e
        cases es : slot E j with
        | none =>
          simp only [es] at e
          cases e
        | some y =>
          obtain ⟨d0, k0⟩ := y
          simp only [es] at e
          by_cases hk : k0.w = false
          · rw [if_pos hk] at e
            cases e
          · rw [if_neg hk] at e
            cases eg : gPut x d0 (rsF c).d with
            | none =>
              simp only [eg] at e
              cases e
            | some d' =>
              simp only [eg] at e
              injection e with e
              refine ⟨_, e.symm, fun m hm => ?_⟩
              rw [slot_set (slot_lt es), if_neg hm]
      · cases e
  · rw [if_neg hc] at e
    cases e
section
variable {X : Cx} {W : WX} {k : Nat}
theorem es_putEach (po : PassesOwn (model X.prog X.w) X.A X.env X.xe) (C : XOk k X) {i j t : Nat} {c : Dat} {o ke value tg it : Expr} {pos pos' pos2 : Pos} (hg : PG X tg (gT X.K (.one t))) (hi : PE X it (tVar i)) (ho : PE X o (tVar j)) (hk : Ev X W ke (fVar t)) (hv : Ev X W value (fC c))
    (hs2 : ∀ y, foldedSetIterable it X.env y = pure y := by intro _; rfl) (hs : swapsWith value (some (.Subscript o ke pos')) pos.line X.env = pure false := by rfl) :
    Es X W (.For tg it [.Assign [.Subscript o ke pos'] value pos] [] pos2) (sPutEach i j t c) := by
  refine ⟨weakS (ps_for po C.calm (pi_list (tg := tg) hi) hg (pss_one (put_stay C ho hk hv hs)) hs2) fun D σ H ⟨B, E, F, r, o⟩ => ?_⟩
  have hh : ∃ xs, slot E i = some (.lst xs, .deep) ∧ i ≠ j ∧ i ≠ t ∧ flatL xs = true ∧ OutS X W B D (forGo (.one t) (sPut j (fVar t) (fC c)) xs E) := by
    unfold sPutEach at o
    split at o
    · rename_i xs e
      by_cases hc : i ≠ j ∧ i ≠ t ∧ flatL xs = true
      · rw [if_pos hc] at o
        exact ⟨xs, e, hc.1, hc.2.1, hc.2.2, o⟩
      · rw [if_neg hc] at o
        exact o.elim
    · exact o.elim
  obtain ⟨xs, e0, hij, hit, hfl, o⟩ := hh
  obtain ⟨a, vs, f, y1, y2, y3, y4⟩ := lst_slot r.rep e0
  refine ⟨.ref a, y1, a, rfl, ⟨vs, .inl (.inl y3)⟩, ?_⟩
  have wk : Walk (Itl X.K a) xs.length (fun H => ∃ vs, SqL X.K H a vs ∧ vs.length = xs.length) (fun i H x H' => H' = H ∧ ∀ vs, SqL X.K H a vs → vs[i]? = some x) :=
    ⟨fun i _ hi ⟨vs, q, l⟩ => ⟨vs, vs[i], q, by simp [l, hi]⟩, fun _ ⟨vs, q, l⟩ => ⟨vs, q, by omega⟩, fun _ _ _ _ _ _ y => ⟨y.1, y.2⟩⟩
  refine for_it (g := gT X.K (.one t)) (tb := fun D σ H => ∃ B E F, R (glo X) B E σ H F ∧ OutS X W B (Ends.stay D σ) (sPut j (fVar t) (fC c) E)) (D := D) wk (fun n σ' H' => ∃ E' F', R (glo X) B E' σ' H' F' ∧ slot E' i = some (.lst xs, .deep) ∧ σ'[i]? = some (some (.ref a)) ∧ OutS X W B D (forGo (.one t) (sPut j (fVar t) (fC c)) (xs.drop n) E')) ⟨E, F, r, e0, y1, by rw [List.drop_zero]; exact o⟩ ?_ ?_ ?_
  · rintro n σ' H' hn ⟨E', F', r', z1, z2, z3⟩
    obtain ⟨l, vs', f', w1, w2, w3, w4⟩ := lst_slot r'.rep z1
    have el : l = a := by
      rw [z2] at w1
      injection w1 with w1
      injection w1 with w1
      injection w1 with w1
      exact w1.symm
    subst el
    exact ⟨vs', .inl (.inl w3), w4.len⟩
  · rintro n x σ' H' H'' hn ⟨E', F', r', z1, z2, z3⟩ ⟨rfl, hx⟩
    obtain ⟨l, vs', f', w1, w2, w3, w4⟩ := lst_slot r'.rep z1
    have el : l = a := by
      rw [z2] at w1
      injection w1 with w1
      injection w1 with w1
      injection w1 with w1
      exact w1.symm
    subst el
    have hf' := flat_reps w4 hfl
    subst hf'
    have hx2 := hx vs' (.inl (.inl w3))
    have hg2 : xs[n]? = some xs[n] := List.getElem?_eq_getElem hn
    obtain ⟨v, fv, q1, q2, q3⟩ := w4.at hg2
    have ev : v = x := by
      rw [hx2] at q1
      injection q1 with q1
      exact q1.symm
    subst ev
    have efv : fv = [] := List.eq_nil_iff_forall_not_mem.mpr fun b hb => nomatch q3 b hb
    subst efv
    rw [List.drop_eq_getElem_cons hn] at z3
    simp only [forGo] at z3
    cases eb : bindT (.one t) xs[n] E' with
    | none =>
      rw [eb] at z3
      exact z3.elim
    | some E3 =>
      simp only [eb] at z3
      refine bind_tg (G := glo X) r'.rep q2 eb fun σ3 F3 bb => ⟨B, E3, F3, r'.bnd bb (fun _ _ _ z => nomatch z) (fun _ z => nomatch z), ?_⟩
      have si : slot E3 i = some (.lst xs, .deep) := by
        rw [(bb.out i (by simp [slotsT, hit])).2]
        exact z1
      have σi : σ3[i]? = some (some (.ref l)) := by
        have := bb.wip [t] (by simp [slotsT])
        have h2 := congrArg (fun s : L2.St => s[i]?) this
        simp only [wipe] at h2
        rw [List.getElem?_set_ne (fun z => hit z.symm), List.getElem?_set_ne (fun z => hit z.symm)] at h2
        rw [h2]
        exact z2
      cases e3 : sPut j (fVar t) (fC c) E3 with
      | no =>
        rw [e3] at z3
        exact z3
      | exc cl =>
        rw [e3] at z3
        exact z3
      | ok fl =>
        obtain ⟨E4, rfl, h4⟩ := put_slot e3
        rw [e3] at z3
        intro σ' H' F' r4 es
        subst es
        exact ⟨E4, F', r4, by rw [h4 i hij]; exact si, σi, z3⟩
  · rintro σ' H' ⟨E', F', r', z1, z2, z3⟩
    rw [List.drop_length] at z3
    exact z3 σ' H' F' r'
end
end PV

namespace PV
open PySem PySem.Spec L2
theorem defp_rec {P : Program} {w : World} {K : PySem.W.Frag} {mg : Str → Option Value} {base : Heap} {L n : Nat} {x : Str} {st : Stmt} {f : Addr} {fd : FuncData} {N ps : List Str} {qual : Str} {c : Nat → Con} (h0 : c 0 = fun _ => .no) (F : Fun K x qual st f fd) (S : FnScope N ps (defScope st)) (hn : ps.length = n) (g : mg x = some (.ref f)) (b : Binds K fd ps [])
    (step : ∀ m, DefP P w K mg base (L + 1 + m) x n (c m) → DefP P w K mg base (L + 1 + m + 1) x n (c (m + 1))) : ∀ m, DefP P w K mg base (L + 1 + m) x n (c m)
  | 0 => by
    refine DefP.mk F (F.okX (k := L) S (fun vs H Q E ⟨ds, fp, r, l, _⟩ => l.trans hn.symm) fun cdv A outer s H vs Q E hr ⟨ds, fp, r, l, h⟩ => ?_) g b
    rw [h0] at h
    exact h.elim
  | m + 1 => step m (defp_rec h0 F S hn g b step m)
end PV

namespace PV
open PySem PySem.Spec L2
def Fx.pin (B : Fx) (i : Nat) (v : V) (fp : List Addr) : Fx := ⟨B.H0, B.Lk, B.T, B.P, fun j => if j = i then some (v, fp) else B.L j⟩
theorem R.pin {G : Glo} {B : Fx} {E : Sto} {σ : L2.St} {H : Hp} {F : Fp} {i : Nat} {d : Dat} {v : V} (r : R G B E σ H F) (hs : slot E i = some (d, .deep)) (hv : σ[i]? = some (some v)) : R G (B.pin i v (F i)) (E.set i (some (d, .lk))) σ H F := by
  have hi : i < E.length := slot_lt hs
  have ki : kd E i = .deep := by
    unfold kd
    rw [hs]
  have ow : ∀ j, ∀ a ∈ Ow (E.set i (some (d, .lk))) F j, j ≠ i ∧ a ∈ Ow E F j := fun j a ha => by
    unfold Ow at ha ⊢
    rw [kd_set hi] at ha
    by_cases hj : j = i
    · rw [if_pos hj] at ha
      cases ha
    · rw [if_neg hj] at ha
      exact ⟨hj, ha⟩
  have sw : ∀ j, Sw (E.set i (some (d, .lk))) F j = Sw E F j := fun j => by
    unfold Sw
    rw [kd_set hi]
    by_cases hj : j = i
    · rw [if_pos hj, hj, ki]
      rfl
    · rw [if_neg hj]
  refine ⟨⟨by rw [List.length_set]; exact r.rep.len, fun j dj kj e => ?_, fun j e => ?_⟩, fun j a ha => r.own j a (ow j a ha).2, fun j e => ?_, fun j e => ?_, fun j m n a ha => r.sep j m n a (by rw [← sw]; exact ha), r.pro, fun t ht => ⟨(r.tmp t ht).1, fun j a ha => (r.tmp t ht).2 j a (ow j a ha).2⟩, r.prv, r.frm, fun j e => ?_⟩
  · rw [slot_set hi] at e
    by_cases hj : j = i
    · rw [if_pos hj] at e
      injection e with e
      injection e with e1 e2
      subst hj e1
      exact r.rep.rep j _ _ hs
    · rw [if_neg hj] at e
      exact r.rep.rep j _ _ e
  · rw [slot_set hi] at e
    by_cases hj : j = i
    · rw [if_pos hj] at e
      cases e
    · rw [if_neg hj] at e
      exact r.rep.emp j e
  · rw [kd_set hi] at e
    by_cases hj : j = i
    · rw [if_pos hj] at e
      cases e
    · rw [if_neg hj] at e
      exact r.nod j e
  · rw [kd_set hi] at e
    by_cases hj : j = i
    · rw [if_pos hj] at e
      cases e
    · rw [if_neg hj] at e
      exact r.rot j e
  · rw [kd_set hi] at e
    by_cases hj : j = i
    · subst hj
      exact ⟨v, if_pos rfl, hv⟩
    · rw [if_neg hj] at e
      obtain ⟨u, q1, q2⟩ := r.lk j e
      exact ⟨u, (if_neg hj).trans q1, q2⟩
section
variable {X : Cx} {W : WX} {k : Nat}
end
end PV

namespace PV
open PySem PySem.Spec L2
theorem fs_get {G : Glo} {H : Hp} {x : Tx} {d : Dat} : ∀ {ks : List Tx} {ds : List Dat} {vs : List V} {fp : List Addr}, RepL G H ds vs fp → ks.length = vs.length → dGet ks ds x = some d → ∃ v g, (fsOf ks vs).lookup (mkS x) = some v ∧ Rep G H d v g ∧ ∀ a ∈ g, a ∈ fp
  | [], _, _, _, _, _, h => by
    unfold dGet at h
    cases h
  | k :: ks, [], _, _, _, _, h => by
    unfold dGet at h
    cases h
  | k :: ks, e :: ds, vs, fp, r, hl, h => by
    simp only [RepL] at r
    obtain ⟨u, us, fh, ft, rfl, rfl, r1, r2⟩ := r
    show ∃ v g, List.lookup (mkS x) ((mkS k, u) :: fsOf ks us) = some v ∧ _
    by_cases e1 : k = x
    · subst e1
      simp [dGet] at h
      subst h
      exact ⟨u, fh, by simp [List.lookup], r1, fun a ha => by simp [ha]⟩
    · simp [dGet, e1] at h
      obtain ⟨v, g, q1, q2, q3⟩ := fs_get r2 (by simpa using hl) h
      refine ⟨v, g, ?_, q2, fun a ha => by simp [q3 a ha]⟩
      have hb : (mkS x == mkS k) = false := beq_eq_false_iff_ne.mpr fun z => e1 (mkS_inj z).symm
      simp only [List.lookup, hb]
      exact q1
theorem fs_none {x : Tx} : ∀ {ks : List Tx} {vs : List V}, x ∉ ks → (fsOf ks vs).lookup (mkS x) = none
  | [], _, _ => rfl
  | k :: ks, [], _ => rfl
  | k :: ks, v :: vs, h => by
    show List.lookup (mkS x) ((mkS k, v) :: fsOf ks vs) = none
    have hb : (mkS x == mkS k) = false := beq_eq_false_iff_ne.mpr fun z => h (by simp [mkS_inj z])
    simp only [List.lookup, hb]
    exact fs_none fun z => h (List.mem_cons_of_mem _ z)
/-- instances of the class c have a field f -/
structure AttK (K : PySem.W.Frag) (mg : Str → Option Value) (f : Str) (c : Tx) : Prop where
  ex : ∃ C, mg (mkS c) = some (.ref C) ∧ Cls K C ∧ NoAttr K C f
def gAtt (f : Tx) (cs : List Tx) (r : Rs) : Res Rs := match r.d with
  | .ins c ks ds => if c ∈ cs then match dGet ks ds f with
    | some d => .ok (pick r d)
    | none => .no
    else .no
  | _ => .no
section
variable {X : Cx} {W : WX} {k : Nat}
theorem ev_attr {e : Expr} {x : Str} {f : Tx} {cs : List Tx} {pos : Pos} {fe : Sto → Res Rs} (A : ∀ c ∈ cs, AttK X.K X.mg x c) (he : Ev X W e fe) (hx : mkS f = x := by rfl) (hb : attributeBase e x X.env (eval e X.env) = eval e X.env := by rfl) : Ev X W (.Attribute e x pos) (fOne (gAtt f cs) fe) := by
  refine ⟨weakE (pe_fld he.pe hb) fun σ H Q ⟨E, F, re, o⟩ => ?_⟩
  refine seqE re (Same.refl H) o fun r v H1 fp e1 s1 g o1 => ?_
  have p := g.rep
  unfold gAtt at o1
  cases ed : r.d <;> simp only [ed] at o1 <;> first | exact o1.elim | skip
  rename_i c ks ds
  rw [ed] at p
  by_cases hc : c ∈ cs
  · rw [if_pos hc] at o1
    cases hg : dGet ks ds f with
    | none =>
      simp only [hg] at o1
      exact o1.elim
    | some d =>
      simp only [hg] at o1
      simp only [Rep] at p
      obtain ⟨a, C, dx, vs, f', rfl, q1, q2, q3, q4, q5⟩ := p
      obtain ⟨C', m, cl, na⟩ := (A c hc).ex
      have eC : C' = C := by
        rw [m] at q1
        injection q1 with q1
        injection q1
      subst eC
      obtain ⟨v, g1, w1, w2, w3⟩ := fs_get q4 q3 hg
      rw [hx] at w1
      exact ⟨a, C', dx, _, v, rfl, q2, cl, na, w1, pick_out g w2 (fun b hb => by rw [q5]; simp [w3 b hb]) o1⟩
  · rw [if_neg hc] at o1
    exact o1.elim
def tMethS (C : Addr) (m : Str) (sp : Sp) (E : L2.St → XK) (ta : TE) (t : TA) : TE := fun σ H Q => ta σ H fun x H1 => ∃ a dx fs, x = .ref a ∧ H1 a = some (.ins C dx fs) ∧ fs.lookup m = none ∧
  t σ H1 fun vs H2 => sp (x :: vs) H2 Q (E σ)
theorem pe_methS {CX : CXT} {C g : Addr} {fd : FuncData} {ps : List Str} {sp : Sp} {E : L2.St → XK} {m : Str} {o e : Expr} {es : List Expr} {ta : TE} {t : TA} {apos pos : Pos} {pl : Sem Bool} (he : PE X o ta) (c : Cls X.K C) (hm : Meth X.K C m g) (F : FnOk X.prog X.w X.K X.mg X.base CX k g fd ps sp) (hr : Room k X.A) (hb : Binds X.K fd ps []) (hx : ∀ σ, PassesAt CX X σ (E σ)) (ha : PA X (e :: es) t)
    (hst : starEach (e :: es) X.env = (false, eval e X.env) :: starEach es X.env := by rfl) (hpl : (backTo pos (starEach es X.env)).any (·.1) = false := by rfl)
    (ht : eval (.Call (.Attribute o m apos) (e :: es) [] pos) X.env = (do
      let ov ← eval o X.env
      standAt apos.atName
      let (f, first) ← holding [ov] (getMethod ov m pl)
      callWith pos f first (backTo pos (starEach (e :: es) X.env)) (backToKw pos (keywordEach [] X.env))) := by rfl) :
    PE X (.Call (.Attribute o m apos) (e :: es) [] pos) (tMethS C m sp E ta t) := by
  refine ⟨fun pins s σ H Q I h => ?_⟩
  refine PySem.W.methodCall_KW (pl := pl) (thn (he.run pins s σ H _ I h) fun u s1 ⟨x, H1, I1, rx, a, dx, fs, ex, ea, l, q⟩ => ?_) ht
  subst ex
  obtain rfl : u = Value.ref a := rx
  refine getmeth_ok I1 ea c hm l ?_
  refine PySem.W.callWith_K (first := [.ref a]) (h₀ := X.base) I.ok.mod.kin hm.kp (thn (ha.run pos pins s1 σ H1 _ I1 q) fun us s2 ⟨vs, H2, I2, r, q2⟩ => ⟨I2.kIn, ?_⟩) hst hpl
  exact run_fnS (us := .ref a :: us) (vs := .ref a :: vs) F hr hb (hx σ) I2 (.cons rfl r) q2
/-- what a caller knows of a method of the class c -/
def MetP (P : Program) (w : World) (K : PySem.W.Frag) (mg : Str → Option Value) (base : Heap) (k : Nat) (c : Tx) (m : Str) (n : Nat) (con : Con) : Prop :=
  ∃ C f fd ps j, mg (mkS c) = some (.ref C) ∧ Cls K C ∧ Meth K C m f ∧ FnOk P w K mg base (L2.CX P w) j f fd ps (spC ⟨K, mg⟩ n con) ∧ Binds K fd ps [] ∧ j ≤ k
def lkC (cs : List (Tx × Con)) (c : Tx) : Option Con := (cs.find? fun p => decide (p.1 = c)).map (·.2)
theorem lkC_mem {cs : List (Tx × Con)} {c : Tx} {con : Con} (h : lkC cs c = some con) : (c, con) ∈ cs := by
  unfold lkC at h
  cases e : cs.find? fun p => decide (p.1 = c) with
  | none =>
    rw [e] at h
    cases h
  | some p =>
    rw [e] at h
    have h1 := List.find?_some e
    have h2 := List.mem_of_find?_eq_some e
    have h1 : p.1 = c := by simpa using h1
    injection h with h
    rw [← h1, ← h]
    exact h2
def fMet (m : Tx) (n : Nat) (cs : List (Tx × Con)) (fo : Sto → Res Rs) (fa : Sto → Res (List Rs)) : Sto → Res Rs := fun E => match fo E with
  | .ok r => match r.d with
    | .ins c ks ds => if m ∈ ks then .no else match lkC cs c with
      | some con => (fa E).bind fun rs => if rs.length + 1 ≠ n then .no else match con (r.d :: rs.map (·.d)) with
        | .ok (d, dp) => .ok (if flat d then rsF d else if dp then ⟨d, false, [], some []⟩ else ⟨d, false, r.src ++ allSrc rs, none⟩)
        | .exc cl => .exc cl
        | .no => .no
      | none => .no
    | _ => .no
  | _ => .no
theorem met_gv {G : Glo} {H H1 H2 : Hp} {F : Fp} {src : List Nat} {fp f : List Addr} {d : Dat} {dp : Bool} {v : V} (s1 : Same H H1) (r : Rep G H2 d v f) (h1 : dp = true → f.Nodup ∧ ∀ a ∈ f, H1 a = none ∧ Wr H2 a) (h2 : ∀ a ∈ f, H1 a = none ∨ a ∈ fp) (hs : ∀ a ∈ fp, H a = none ∨ ∃ i ∈ src, a ∈ F i) :
    Gv G H F (if flat d then rsF d else if dp then ⟨d, false, [], some []⟩ else ⟨d, false, src, none⟩) v H2 f := by
  by_cases hf : flat d = true
  · rw [if_pos hf]
    have := Rep.flat _ _ _ r hf
    subst this
    exact Gv.flat r
  · rw [if_neg hf]
    by_cases hd : dp = true
    · rw [if_pos hd]
      obtain ⟨n, w⟩ := h1 hd
      refine ⟨r, fun a ha => .inl (s1.free (w a ha).1), (fun z => nomatch z), fun m em => ?_⟩
      injection em with em
      subst em
      exact ⟨f, by simp, n, fun a ha => ⟨s1.free (w a ha).1, (w a ha).2⟩⟩
    · rw [if_neg hd]
      refine ⟨r, fun a ha => ?_, (fun z => nomatch z), (fun m z => nomatch z)⟩
      rcases h2 a ha with q | q
      · exact .inl (s1.free q)
      · exact hs a q
theorem seqA0 {f : Sto → Res (List Rs)} {E : Sto} {F : Fp} {σ : L2.St} {H H1 : Hp} {kk : List Rs → Res Rs} {Q : VK} {Q' : List V → Hp → Prop} (re : RepE (glo X) H1 E σ F) (s : Same H H1) (o : Out X W H H1 F σ ((f E).bind kk) Q)
    (h : ∀ rs vs H2 fp, f E = .ok rs → Same H1 H2 → GvL (glo X) H F rs vs H2 fp → Out X W H H2 F σ (kk rs) Q → Q' vs H2) : tEa X W f σ H1 Q' := by
  refine ⟨E, F, re, ?_⟩
  cases e : f E with
  | no =>
    rw [e] at o
    exact o
  | exc c =>
    rw [e] at o
    exact o
  | ok rs =>
    intro vs H2 fp s1 g
    rw [e] at o
    have o : Out X W H H1 F σ (kk rs) Q := o
    exact h rs vs H2 fp e s1 (g.back s) (o.mono s1)
theorem ev_meth (C : XOk k X) (tk : Takes X W) {o e : Expr} {es : List Expr} {m : Str} {mt : Tx} {n : Nat} {cs : List (Tx × Con)} {apos pos : Pos} {pl : Sem Bool} {fo : Sto → Res Rs} {fa : Sto → Res (List Rs)} (M : ∀ p ∈ cs, MetP X.prog X.w X.K X.mg X.base k p.1 m n p.2) (ho : Ev X W o fo) (ha : Ea X W (e :: es) fa) (hm : mkS mt = m := by rfl)
    (hst : starEach (e :: es) X.env = (false, eval e X.env) :: starEach es X.env := by rfl) (hpl : (backTo pos (starEach es X.env)).any (·.1) = false := by rfl)
    (ht : eval (.Call (.Attribute o m apos) (e :: es) [] pos) X.env = (do
      let ov ← eval o X.env
      standAt apos.atName
      let (f, first) ← holding [ov] (getMethod ov m pl)
      callWith pos f first (backTo pos (starEach (e :: es) X.env)) (backToKw pos (keywordEach [] X.env))) := by rfl) :
    Ev X W (.Call (.Attribute o m apos) (e :: es) [] pos) (fMet mt n cs fo fa) := by
  refine ⟨⟨fun pins s σ H Q I ⟨E, F, re, ou⟩ => ?_⟩⟩
  unfold fMet at ou
  cases eo : fo E with
  | no =>
    simp only [eo] at ou
    exact ou.elim
  | exc c =>
    simp only [eo] at ou
    exact ou.elim
  | ok r =>
    simp only [eo] at ou
    cases ed : r.d <;> simp only [ed] at ou <;> first | exact ou.elim | skip
    rename_i c ks ds
    by_cases hk : mt ∈ ks
    · rw [if_pos hk] at ou
      exact ou.elim
    · rw [if_neg hk] at ou
      cases el : lkC cs c with
      | none =>
        simp only [el] at ou
        exact ou.elim
      | some con =>
        simp only [el] at ou
        have M1 : MetP X.prog X.w X.K X.mg X.base k c m n con := M _ (lkC_mem el)
        obtain ⟨Ca, f, fd, ps, j, hC, cl, me, Fn, hb, hj⟩ := M1
        refine (pe_methS (pl := pl) ho.pe cl me (Fn.mono hj) C.hr hb (fun σ => passAt tk σ) ha.pa hst hpl ht).run pins s σ H Q I ?_
        refine ⟨E, F, re, ?_⟩
        rw [eo]
        intro v H1 fp s1 g
        have p := g.rep
        rw [ed] at p
        have p' := p
        simp only [Rep] at p
        obtain ⟨a, C', dx, vs, f', rfl, q1, q2, q3, q4, q5⟩ := p
        have eC : C' = Ca := by
          rw [hC] at q1
          injection q1 with q1
          injection q1 with q1
          exact q1.symm
        subst eC
        refine ⟨a, dx, _, rfl, q2, by rw [← hm]; exact fs_none hk, ?_⟩
        refine seqA0 (re.same s1) s1 (ou.mono s1) fun rs ws H2 fp2 e2 s2 g2 o2 => ?_
        have hl : rs.length + 1 = n := Classical.byContradiction fun hl => by
          rw [if_pos hl] at o2
          exact o2.elim
        rw [if_neg (fun z => z hl)] at o2
        refine ⟨.ins c ks ds :: rs.map (·.d), fp ++ fp2, RepL.cons (p'.same s2) g2.reps, by rw [List.length_cons, g2.len]; exact hl, ?_⟩
        cases ec : con (.ins c ks ds :: rs.map (·.d)) with
        | no =>
          simp only [ec] at o2
          exact o2
        | exc cl =>
          simp only [ec] at o2
          exact o2
        | ok y =>
          obtain ⟨d, dp⟩ := y
          simp only [ec] at o2
          refine fun v H' f' s3 r3 h1 h2 => o2 v H' f' s3 (met_gv (fp := fp ++ fp2) (s1.trans s2) r3 h1 h2 fun b hb => ?_)
          rcases List.mem_append.mp hb with z | z
          · rcases g.prv.src b z with w | ⟨i, hi, w⟩
            · exact .inl w
            · exact .inr ⟨i, List.mem_append.mpr (.inl hi), w⟩
          · rcases g2.src b z with w | ⟨r', hr', i, hi, w⟩
            · exact .inl w
            · exact .inr ⟨i, List.mem_append.mpr (.inr (List.mem_flatMap.mpr ⟨r', hr', hi⟩)), w⟩
abbrev ICon := List Dat → Res (List Tx × List Dat × Bool)
def spI (G : Glo) (c : Tx) (n : Nat) (ci : ICon) : Sp := fun vs H Q E => ∃ x C dx ws ds fp, vs = .ref x :: ws ∧ G.mg (mkS c) = some (.ref C) ∧ H x = some (.ins C dx []) ∧ RepL G H ds ws fp ∧ x ∉ fp ∧ ws.length = n ∧ match ci ds with
  | .ok (ks, es, dp) => ∀ H' us f, (∀ b o, b ≠ x → H b = some o → H' b = some o) → H' x = some (.ins C dx (fsOf ks us)) → ks.length = us.length → RepL G H' es us f → x ∉ f → (dp = true → f.Nodup ∧ ∀ a ∈ f, H a = none ∧ Wr H' a) → (∀ a ∈ f, H a = none ∨ a ∈ fp) → Q .non H'
  | .exc cl => ∀ C' H', G.mg (mkS cl) = some (.ref C') → Same H H' → E (.ref C') none H'
  | .no => False
def initF (N n : Nat) (F : Tx) (f : Sto → Res Rs) : ICon := fun ds => if ds.length = n then (f (none :: startE (N - 1) ds)).bind fun r => .ok ([F], [r.d], decide (r.mv = some [])) else .no
def MakP (P : Program) (w : World) (K : PySem.W.Frag) (mg : Str → Option Value) (base : Heap) (k : Nat) (c : Tx) (n : Nat) (ci : ICon) : Prop :=
  ∃ C f fd ps j, mg (mkS c) = some (.ref C) ∧ Mk K C f ∧ FnOk P w K mg base (L2.CX P w) j f fd ps (spI ⟨K, mg⟩ c n ci) ∧ Binds K fd ps [] ∧ j + 1 ≤ k
theorem fn_init {P : Program} {w : World} {K : PySem.W.Frag} {mg : Str → Option Value} {base : Heap} {x qual : Str} {st : Stmt} {f : Addr} {fd : FuncData} {s0 : Str} {N ps : List Str} {k n : Nat} {c : Tx} {fl : Str} {ft : Tx} {ff : Sto → Res Rs} (Fu : Fun K x qual st f fd) (S : FnScope (s0 :: N) (s0 :: ps) (defScope st)) (hn : ps.length = n) (A0 : AttK K mg fl c) (hft : mkS ft = fl)
    (hb : ∀ (cdv : Value) (A : Around) (outer : List Env) (s : Shared) (H : Hp) (E : XK), XOk k (cxOf (L2.CX P w) P w K mg base (s0 :: N) qual (defScope st) f cdv A outer s H E) →
      Takes (cxOf (L2.CX P w) P w K mg base (s0 :: N) qual (defScope st) f cdv A outer s H E) (fun cls d _ H => E cls d H) →
      PSs (cxOf (L2.CX P w) P w K mg base (s0 :: N) qual (defScope st) f cdv A outer s H E) (defBody st) (sFld K (tVar 0) (tEv (cxOf (L2.CX P w) P w K mg base (s0 :: N) qual (defScope st) f cdv A outer s H E) (fun cls d _ H => E cls d H) ff) fl)) :
    FnOk P w K mg base (L2.CX P w) (k + 1) f fd (s0 :: ps) (spI ⟨K, mg⟩ c n (initF (s0 :: N).length n ft ff)) := by
  refine Fu.okX S (fun vs H Q E ⟨x, C, dx, ws, ds, fp, e, _, _, _, _, l, _⟩ => by rw [e, List.length_cons, List.length_cons, l, hn]) fun cdv A outer s H vs Q E hr ⟨x, C, dx, ws, ds, fp, ev, hC, hx, r, nx, l, h⟩ => ?_
  subst ev
  have C0 : XOk k (cxOf (L2.CX P w) P w K mg base (s0 :: N) qual (defScope st) f cdv A outer s H E) := ⟨rfl, S.nd, hr⟩
  refine ⟨_, hb cdv A outer s H E C0 (takes_of rfl rfl rfl rfl), ?_⟩
  obtain ⟨F0, r0⟩ := R.start (N := N) r
  have ld : ds.length = n := by rw [← r.len]; exact l
  unfold initF at h
  rw [if_pos ld] at h
  simp only [List.length_cons, Nat.add_sub_cancel] at h
  have re : RepE ⟨K, mg⟩ H (none :: startE N.length ds) (L2.start (s0 :: N) (.ref x :: ws)) (fun i => match i with | 0 => [] | j + 1 => F0 j) := by
    refine ⟨?_, fun i d kk e => ?_, fun i e => ?_⟩
    · have := r0.rep.len
      unfold L2.start at this ⊢
      simpa using this
    · cases i with
      | zero =>
        simp [slot] at e
      | succ j =>
        have e' : slot (startE N.length ds) j = some (d, kk) := by simpa [slot] using e
        obtain ⟨v, h1, h2⟩ := r0.rep.rep j d kk e'
        refine ⟨v, ?_, h2⟩
        unfold L2.start at h1 ⊢
        simpa using h1
    · cases i with
      | zero => rfl
      | succ j => exact r0.rep.emp j (by simpa [slot] using e)
  have hs0 : (L2.start (s0 :: N) (.ref x :: ws))[0]? = some (some (.ref x)) := by
    unfold L2.start
    simp
  have nF : ∀ j, x ∉ F0 j := fun j z => by
    rcases r0.prv j x z with q | q
    · have q : H x = none := q
      rw [hx] at q
      cases q
    · exact nx q
  refine ⟨_, _, re, ?_⟩
  cases e : ff (none :: startE N.length ds) with
  | no =>
    rw [e] at h
    exact h.elim
  | exc cl =>
    rw [e] at h
    exact fun C' H' m s => h C' H' m s
  | ok rs =>
    rw [e] at h
    intro v H1 fp1 s1 g
    refine ⟨.ref x, hs0, ?_⟩
    obtain ⟨C', m', cl, na⟩ := A0.ex
    have eC : C' = C := by
      have z := m'.symm.trans hC
      injection z with z
      injection z
    subst eC
    have hx1 := s1 _ _ hx
    refine ⟨x, C', dx, [], rfl, hx1, cl, na, by decide, ?_⟩
    have nx1 : x ∉ fp1 := fun z => by
      rcases g.prv.src x z with q | ⟨i, hi, q⟩
      · rw [hx] at q
        cases q
      · cases i with
        | zero => cases q
        | succ j => exact nF j q
    have wx : Wr H1 x := ⟨_, hx1, rfl⟩
    have kp := Kp.upd (o := HO.ins C' dx (putF fl v [])) wx
    refine h _ [v] fp1 (fun b o nb e => by rw [upd_ne nb]; exact s1 _ _ e) ?_ rfl (RepL.one (Rep.kp kp _ _ _ g.rep (not_in nx1))) nx1 (fun hd => ?_) fun a ha => ?_
    · rw [upd_same]
      show _ = some (HO.ins C' dx [(mkS ft, v)])
      rw [hft]
      rfl
    · have hd := of_decide_eq_true hd
      obtain ⟨fr, q1, q2, q3⟩ := g.prv.mv _ hd
      simp only [List.map_nil, List.flatten_nil, List.append_nil] at q1
      refine ⟨q1.nodup_iff.mpr q2, fun a ha => ?_⟩
      obtain ⟨w1, w2⟩ := q3 a (q1.mem_iff.mp ha)
      obtain ⟨u, z1, z2⟩ := w2
      have na : a ≠ x := fun z => nx1 (by rw [← z]; exact ha)
      exact ⟨w1, u, by rw [upd_ne na]; exact z1, z2⟩
    · rcases g.prv.src a ha with q | ⟨i, hi, q⟩
      · exact .inl q
      · cases i with
        | zero => cases q
        | succ j =>
          rcases r0.prv j a q with w | w
          · exact .inl w
          · exact .inr w
theorem init_one {o e : Expr} {fl : Str} {pos pos' : Pos} {ff : Sto → Res Rs} (ho : PE X o (tVar 0)) (he : Ev X W e ff) (hs : swapsWith e (some (.Attribute o fl pos')) pos.line X.env = pure false := by rfl) : PSs X [.Assign [.Attribute o fl pos'] e pos] (sFld X.K (tVar 0) (tEv X W ff) fl) :=
  pss_one (ps_fld ho he.pe hs)
theorem run_makeS {CX : CXT} {pins : List (Addr × Obj)} {σ : L2.St} {H : Hp} {s : Shared} {Q : VK} {us : List Value} {vs : List V} {C f : Addr} {fd : FuncData} {ps : List Str} {sp : Sp} {E : L2.St → XK} (M : Mk X.K C f) (F : FnOk X.prog X.w X.K X.mg X.base CX k f fd ps sp) (hr : Room (k + 1) X.A) (hb : Binds X.K fd ps [])
    (hx : ∀ σ, PassesAt CX X σ (E σ)) (I : Inv X pins σ H s) (r : Vals vs us)
    (h : ∀ x dx, H x = none → H dx = none → dx ≠ x → sp (.ref x :: vs) (upd (upd H dx (.own x)) x (.ins C dx [])) (fun v H2 => v = .non ∧ Q (.ref x) H2) (E σ)) :
    wpAny (model X.prog X.w) X.A (call (.ref C) us) (EP X pins σ Q) X.xe s := by
  have hq := h (s.heap.objs.size + 1) s.heap.objs.size (I.hok.fresh (Nat.le_succ _)) (I.hok.fresh (Nat.le_refl _)) (Nat.ne_of_lt (Nat.lt_succ_self _))
  have I2 := Inv.made (C := C) I
  have r2 : Vals (V.ref (s.heap.objs.size + 1) :: vs) (Value.ref (s.heap.objs.size + 1) :: us) := .cons rfl r
  have hl : (Value.ref (s.heap.objs.size + 1) :: us).length = ps.length := by
    have e := r2.length
    rw [F.len _ _ _ _ hq] at e
    exact e.symm
  have b := hb { s with heap := (s.heap.push PySem.W.emptyDict).push (PySem.W.instObj C s.heap.objs.size) } (Value.ref (s.heap.objs.size + 1) :: us) I2.kIn (by rw [List.append_nil]; exact hl)
  rw [List.append_nil] at b
  refine wpAny_call (make_map (f := f) I.kIn M.makes M.init (beq_iff_eq.mp M.fn) (codeAny_mono (F.run _ X.stack _ _ ⟨Value.ref (s.heap.objs.size + 1) :: us, []⟩ (Value.ref (s.heap.objs.size + 1) :: us) _ _ (E σ) (hr.make C us [])
    (I2.env0.make C us []) b r2 hq) fun r s' hq' => ?_))
  cases r with
  | error e => exact hx σ pins _ _ e s' I2 hq'
  | ok fl =>
    cases fl with
    | ret u =>
      obtain ⟨v, H', I3, rv, ev, q3⟩ := I2.after hq'
      subst ev
      exact ⟨rv, ⟨V.ref (s.heap.objs.size + 1), H', I3, rfl, q3⟩⟩
    | next => exact False.elim hq'
    | brk => exact False.elim hq'
    | cont => exact False.elim hq'
def tMakeS (C : Addr) (sp : Sp) (E : L2.St → XK) (t : TA) : TE := fun σ H Q => t σ H fun vs H1 => ∀ x dx, H1 x = none → H1 dx = none → dx ≠ x →
  sp (.ref x :: vs) (upd (upd H1 dx (.own x)) x (.ins C dx [])) (fun v H2 => v = .non ∧ Q (.ref x) H2) (E σ)
theorem pe_makeS {CX : CXT} {C f : Addr} {fd : FuncData} {ps : List Str} {sp : Sp} {E : L2.St → XK} {x : Str} {p pos : Pos} {e : Expr} {es : List Expr} {t : TA} (M : Mk X.K C f) (F : FnOk X.prog X.w X.K X.mg X.base CX k f fd ps sp) (hr : Room (k + 1) X.A) (hg : Gl X x) (hm : X.mg x = some (.ref C)) (hb : Binds X.K fd ps []) (hx : ∀ σ, PassesAt CX X σ (E σ))
    (ha : PA X (e :: es) t) (hdb : (x == ("__debug__" : Str)) = false := by decide) (he : starEach (e :: es) X.env = (false, eval e X.env) :: starEach es X.env := by rfl) (hpl : (backTo pos (starEach es X.env)).any (·.1) = false := by rfl) :
    PE X (.Call (.Name x p) (e :: es) [] pos) (tMakeS C sp E t) := by
  refine ⟨fun pins s σ H Q I h => ?_⟩
  refine wpAny_Call_Name_kw (ld_glob I hg hm ?_ hdb)
  refine PySem.W.callWith_K (h₀ := X.base) I.ok.mod.kin M.kp (thn (ha.run pos pins s σ H _ I h) fun us s1 ⟨vs, H1, I1, r, q⟩ => ⟨I1.kIn, ?_⟩) he hpl
  exact run_makeS M F hr hb hx I1 r q
theorem pe_make0S {CX : CXT} {C f : Addr} {fd : FuncData} {ps : List Str} {sp : Sp} {E : L2.St → XK} {x : Str} {p pos : Pos} (M : Mk X.K C f) (F : FnOk X.prog X.w X.K X.mg X.base CX k f fd ps sp) (hr : Room (k + 1) X.A) (hg : Gl X x) (hm : X.mg x = some (.ref C)) (hb : Binds X.K fd ps []) (hx : ∀ σ, PassesAt CX X σ (E σ))
    (hdb : (x == ("__debug__" : Str)) = false := by decide) : PE X (.Call (.Name x p) [] [] pos) (tMakeS C sp E tNil) := by
  refine ⟨fun pins s σ H Q I h => ?_⟩
  refine wpAny_Call_Name_kw (ld_glob I hg hm ?_ hdb)
  exact PySem.W.callWith_K0 I.kIn M.kp (run_makeS (us := []) M F hr hb hx I .nil h)
def fMake (c : Tx) (n : Nat) (ci : ICon) (a : Sto → Res (List Rs)) : Sto → Res Rs := fun E => (a E).bind fun rs => if rs.length ≠ n then .no else match ci (rs.map (·.d)) with
  | .ok (ks, es, dp) => .ok ⟨.ins c ks es, true, if dp then [] else allSrc rs, if dp then some [] else none⟩
  | .exc cl => .exc cl
  | .no => .no
theorem make_out {c : Tx} {n : Nat} {ci : ICon} {Ca : Addr} {H H1 : Hp} {F : Fp} {σ : L2.St} {Q : VK} {rs : List Rs} {vs : List V} {fp : List Addr} (hC : X.mg (mkS c) = some (.ref Ca)) (s1 : Same H H1) (g : GvL (glo X) H F rs vs H1 fp) (o1 : Out X W H H1 F σ (if rs.length ≠ n then .no else match ci (rs.map (·.d)) with
    | .ok (ks, es, dp) => .ok ⟨.ins c ks es, true, if dp then [] else allSrc rs, if dp then some [] else none⟩
    | .exc cl => .exc cl
    | .no => .no) Q) (x dx : Addr) (hx : H1 x = none) (hdx : H1 dx = none) (ne : dx ≠ x) :
    spI (glo X) c n ci (.ref x :: vs) (upd (upd H1 dx (.own x)) x (.ins Ca dx [])) (fun v H2 => v = .non ∧ Q (.ref x) H2) (WE W σ) := by
  have hl : rs.length = n := Classical.byContradiction fun hl => by
    rw [if_pos hl] at o1
    exact o1.elim
  rw [if_neg (fun z => z hl)] at o1
  have sm : Same H1 (upd (upd H1 dx (.own x)) x (.ins Ca dx [])) := fun b o e => by
    rw [upd_ne (fun z => by rw [z, hx] at e; cases e), upd_ne (fun z => by rw [z, hdx] at e; cases e)]
    exact e
  have tr : ∀ a ∈ fp, H1 a ≠ none := RepL.trk _ _ _ g.reps
  refine ⟨x, Ca, dx, vs, rs.map (·.d), fp, rfl, hC, upd_same, g.reps.same sm, fun z => tr x z hx, by rw [g.len]; exact hl, ?_⟩
  cases ec : ci (rs.map (·.d)) with
  | no =>
    simp only [ec] at o1
    exact o1
  | exc cl =>
    simp only [ec] at o1
    exact fun C' H' m s => o1 C' H' m (sm.trans s)
  | ok y =>
    obtain ⟨ks, es, dp⟩ := y
    simp only [ec] at o1
    intro H' us f h1 h2 h3 h4 h5 h6 h7
    refine ⟨rfl, o1 (.ref x) H' (x :: f) (fun b o e => h1 b o (fun z => by rw [z, hx] at e; cases e) (sm b o e)) ⟨?_, ⟨fun a ha => ?_, fun _ => ⟨x, f, rfl, s1.free hx, ⟨_, h2, rfl⟩, h5⟩, fun m em => ?_⟩⟩⟩
    · show Rep (glo X) H' (.ins c ks es) (.ref x) (x :: f)
      simp only [Rep]
      exact ⟨x, Ca, dx, us, f, rfl, hC, h2, h3, h4, rfl⟩
    · rcases List.mem_cons.mp ha with z | z
      · subst z
        exact .inl (s1.free hx)
      · by_cases hd : dp = true
        · have := ((h6 hd).2 a z).1
          exact .inl (s1.free (sm.free this))
        · rcases h7 a z with q | q
          · exact .inl (s1.free (sm.free q))
          · rcases g.src a q with w | ⟨r', hr', i, hi, w⟩
            · exact .inl w
            · refine .inr ⟨i, ?_, w⟩
              show i ∈ (if dp = true then [] else allSrc rs)
              rw [if_neg hd]
              exact List.mem_flatMap.mpr ⟨r', hr', hi⟩
    · have em : (if dp = true then some [] else none) = some m := em
      by_cases hd : dp = true
      · rw [if_pos hd] at em
        injection em with em
        subst em
        refine ⟨x :: f, by simp, List.nodup_cons.mpr ⟨h5, (h6 hd).1⟩, fun a ha => ?_⟩
        rcases List.mem_cons.mp ha with z | z
        · subst z
          exact ⟨s1.free hx, _, h2, rfl⟩
        · obtain ⟨w1, w2⟩ := (h6 hd).2 a z
          exact ⟨s1.free (sm.free w1), w2⟩
      · rw [if_neg hd] at em
        cases em
theorem ev_make (C : XOk k X) (tk : Takes X W) {x : Str} {c : Tx} {n : Nat} {ci : ICon} {p pos : Pos} {e : Expr} {es : List Expr} {a : Sto → Res (List Rs)} (M : MakP X.prog X.w X.K X.mg X.base k c n ci) (ha : Ea X W (e :: es) a) (hc : mkS c = x := by rfl) (hg : Gl X x := by rfl) (hdb : (x == ("__debug__" : Str)) = false := by decide)
    (he : starEach (e :: es) X.env = (false, eval e X.env) :: starEach es X.env := by rfl) (hpl : (backTo pos (starEach es X.env)).any (·.1) = false := by rfl) : Ev X W (.Call (.Name x p) (e :: es) [] pos) (fMake c n ci a) := by
  obtain ⟨Ca, f, fd, ps, j, hC, mk, Fn, hb, hj⟩ := M
  refine ⟨weakE (pe_makeS mk Fn (C.hr.mono hj) hg (by rw [← hc]; exact hC) hb (fun σ => passAt tk σ) ha.pa hdb he hpl) fun σ H Q ⟨E, F', re, o⟩ => ?_⟩
  refine seqA re o fun rs vs H1 fp e1 s1 g o1 => ?_
  exact make_out hC s1 g o1
theorem ev_make0 (C : XOk k X) (tk : Takes X W) {x : Str} {c : Tx} {n : Nat} {ci : ICon} {p pos : Pos} (M : MakP X.prog X.w X.K X.mg X.base k c n ci) (hc : mkS c = x := by rfl) (hg : Gl X x := by rfl) (hdb : (x == ("__debug__" : Str)) = false := by decide) : Ev X W (.Call (.Name x p) [] [] pos) (fMake c n ci aNil) := by
  obtain ⟨Ca, f, fd, ps, j, hC, mk, Fn, hb, hj⟩ := M
  refine ⟨weakE (pe_make0S mk Fn (C.hr.mono hj) hg (by rw [← hc]; exact hC) hb (fun σ => passAt tk σ) hdb) fun σ H Q ⟨E, F', re, o⟩ => ?_⟩
  exact make_out hC (Same.refl H) (GvL.nil (F := F')) o
structure ClsK (K : PySem.W.Frag) (C : Addr) : Prop where
  cl : Cls K C
  ha : PySem.W.findIn K (.ref C) "__class__" = some (some (.builtin "object.__class__"))
  hn : PySem.W.specialIn K (.builtin "object.__class__") "__get__" = some (some (.builtin "getset_descriptor.__get__"))
  htk : PySem.W.takesIn K (.builtin "object.__class__") = some true
  hm : PySem.W.mroIn K C (.type "object") = some true
structure IsiK (K : PySem.W.Frag) (mg : Str → Option Value) (c d : Tx) (b : Bool) : Prop where
  ex : ∃ C D, mg (mkS c) = some (.ref C) ∧ mg (mkS d) = some (.ref D) ∧ ClsK K C ∧ PySem.W.kitOne K (.ref C) (.ref D) = some b
def ownL (cs : List (Tx × Bool)) : Tx → Option Bool := fun c => (cs.find? fun p => decide (p.1 = c)).map (·.2)
theorem ownL_mem {cs : List (Tx × Bool)} {c : Tx} {b : Bool} (h : ownL cs c = some b) : (c, b) ∈ cs := by
  unfold ownL at h
  cases e : cs.find? fun p => decide (p.1 = c) with
  | none =>
    rw [e] at h
    cases h
  | some p =>
    rw [e] at h
    have h1 := List.find?_some e
    have h2 := List.mem_of_find?_eq_some e
    have h1 : p.1 = c := by simpa using h1
    injection h with h
    rw [← h1, ← h]
    exact h2
def noAt : String → Option Bool := fun _ => none
theorem ev_isiO {e : Expr} {x : Str} {d : Tx} {cs : List (Tx × Bool)} {p p2 pos : Pos} {f : Sto → Res Rs} (hm : X.mg "isinstance" = none) (hd : ∃ D, X.mg (mkS d) = some (.ref D)) (A : ∀ q ∈ cs, IsiK X.K X.mg q.1 d q.2) (he : Ev X W e f) (hx : mkS d = x := by rfl) (hdb : (x == ("__debug__" : Str)) = false := by decide) (hgl : Gl X "isinstance" := by rfl) (hgx : Gl X x := by rfl)
    (hs : starEach [e, .Name x p2] X.env = (false, eval e X.env) :: starEach [.Name x p2] X.env := by rfl) : Ev X W (.Call (.Name "isinstance" p) [e, .Name x p2] [] pos) (fOne (gIsi noAt (ownL cs)) f) := by
  obtain ⟨D, hD⟩ := hd
  refine ev_isi hm he (pe_glob (v := .ref D) hgx (by rw [← hx]; exact hD) rfl hdb) (.own D) (fun _ _ z => nomatch z) (fun t b h => ?_) hgl hs rfl rfl
  obtain ⟨C, D', m1, m2, ck, kt⟩ := (A _ (ownL_mem h)).ex
  have eD : D' = D := by
    rw [hD] at m2
    injection m2 with m2
    injection m2 with m2
    exact m2.symm
  subst eD
  exact ⟨C, ⟨m1, ck.cl, ck.ha, ck.hn, ck.htk, ck.hm⟩, kt⟩
end
end PV

namespace PV
open PySem PySem.Spec L2
section
variable {K : PySem.W.Frag} {mg : Str → Option Value}
theorem att_nil {f : Str} : ∀ c ∈ ([] : List Tx), AttK K mg f c := fun _ h => nomatch h
theorem att_cons {f : Str} {c : Tx} {cs : List Tx} (h : AttK K mg f c) (t : ∀ c ∈ cs, AttK K mg f c) : ∀ x ∈ c :: cs, AttK K mg f x := fun x hx => by
  rcases List.mem_cons.mp hx with e | e
  · rw [e]
    exact h
  · exact t x e
theorem isi_nil {d : Tx} : ∀ q ∈ ([] : List (Tx × Bool)), IsiK K mg q.1 d q.2 := fun _ h => nomatch h
theorem isi_cons {d c : Tx} {b : Bool} {cs : List (Tx × Bool)} (h : IsiK K mg c d b) (t : ∀ q ∈ cs, IsiK K mg q.1 d q.2) : ∀ q ∈ (c, b) :: cs, IsiK K mg q.1 d q.2 := fun x hx => by
  rcases List.mem_cons.mp hx with e | e
  · rw [e]
    exact h
  · exact t x e
variable {P : Program} {w : World} {base : Heap} {k : Nat} {m : Str} {n : Nat}
theorem MetP.at {j : Nat} {c : Tx} {con : Con} (h : MetP P w K mg base j c m n con) (hj : j ≤ k := by decide) : MetP P w K mg base k c m n con := by
  obtain ⟨C, f, fd, ps, i, h1, h2, h3, h4, h5, h6⟩ := h
  exact ⟨C, f, fd, ps, i, h1, h2, h3, h4, h5, Nat.le_trans h6 hj⟩
theorem MakP.at {j : Nat} {c : Tx} {ci : ICon} (h : MakP P w K mg base j c n ci) (hj : j ≤ k := by decide) : MakP P w K mg base k c n ci := by
  obtain ⟨C, f, fd, ps, i, h1, h2, h3, h4, h5⟩ := h
  exact ⟨C, f, fd, ps, i, h1, h2, h3, h4, Nat.le_trans h5 hj⟩
theorem mets_nil : ∀ p ∈ ([] : List (Tx × Con)), MetP P w K mg base k p.1 m n p.2 := fun _ h => nomatch h
theorem mets_cons {c : Tx} {con : Con} {cs : List (Tx × Con)} (h : MetP P w K mg base k c m n con) (t : ∀ p ∈ cs, MetP P w K mg base k p.1 m n p.2) : ∀ p ∈ (c, con) :: cs, MetP P w K mg base k p.1 m n p.2 := fun x hx => by
  rcases List.mem_cons.mp hx with e | e
  · rw [e]
    exact h
  · exact t x e
end
end PV

namespace PV
open PySem PySem.Spec L2
section
variable {X : Cx} {W : WX} {k : Nat}
theorem pe_callS0 {CX : CXT} {f : Addr} {fd : FuncData} {ps : List Str} {sp : Sp} {E : L2.St → XK} {x : Str} {p pos : Pos} (F : FnOk X.prog X.w X.K X.mg X.base CX k f fd ps sp) (hr : Room k X.A) (hg : Gl X x) (hm : X.mg x = some (.ref f)) (hk : PySem.W.keepIn X.K (.ref f) = true) (hb : Binds X.K fd ps []) (hx : ∀ σ, PassesAt CX X σ (E σ))
    (hdb : (x == ("__debug__" : Str)) = false := by decide) : PE X (.Call (.Name x p) [] [] pos) (tCallS sp E tNil) := by
  refine ⟨fun pins s σ H Q I h => ?_⟩
  refine wpAny_Call_Name_kw (ld_glob I hg hm ?_ hdb)
  exact PySem.W.callWith_K0 I.kIn hk (run_fnS (us := []) F hr hb (hx σ) I .nil h)
theorem ev_call0 (C : XOk k X) (tk : Takes X W) {x : Str} {c : Con} {p pos : Pos} (D : Def X k x 0 c) (hg : Gl X x := by rfl) (hdb : (x == ("__debug__" : Str)) = false := by decide) : Ev X W (.Call (.Name x p) [] [] pos) (fCall 0 c aNil) := by
  obtain ⟨f, fd, ps, j, F, hj, hm, kp, b⟩ := D.ex
  refine ⟨weakE (pe_callS0 F (C.hr.mono hj) hg hm kp b (fun σ => passAt tk σ) hdb) fun σ H Q ⟨E, F', re, o⟩ => ?_⟩
  have o1 : Out X W H H F' σ (match c [] with
    | .ok (d, dp) => .ok (if flat d then rsF d else if dp then ⟨d, false, [], some []⟩ else ⟨d, false, allSrc [], none⟩)
    | .exc cl => .exc cl
    | .no => .no) Q := o
  refine ⟨[], [], RepL.nil, rfl, ?_⟩
  cases ec : c [] with
  | no =>
    simp only [ec] at o1
    exact o1
  | exc cl =>
    simp only [ec] at o1
    exact o1
  | ok y =>
    obtain ⟨d, dp⟩ := y
    simp only [ec] at o1
    exact fun v H' f' s2 r h1 h2 => o1 v H' f' s2 (call_gv (rs := []) (Same.refl H) .nil r h1 h2)
theorem DefP.re {P : Program} {w : World} {K : PySem.W.Frag} {mg : Str → Option Value} {base : Heap} {j n : Nat} {x y : Str} {c : Con} (d : DefP P w K mg base j x n c) {f : Addr} (hx : mg x = some (.ref f)) (hy : mg y = some (.ref f)) : DefP P w K mg base j y n c := by
  obtain ⟨g, fd, ps, i, h1, h2, h3, h4, h5⟩ := d
  have e : g = f := by
    rw [hx] at h3
    injection h3 with h3
    injection h3 with h3
    exact h3.symm
  subst e
  exact ⟨g, fd, ps, i, h1, h2, hy, h4, h5⟩
def stepN (i j c : Int) : Nat := (Builtin.Range.rangeSize i j c).toNat
def rgOk (i j c : Int) : Bool := decide (c ≠ 0) && decide (c.natAbs < 1073741824) && Builtin.Range.small i j c && decide (Builtin.Range.rangeSize i j c = (stepN i j c : Int)) && decide (stepN i j c ≤ 1000000)
def gRange3 (rs : List Rs) : Res (List Dat × List Nat) := match (rs.map Rs.d : List Dat) with
  | [.int i, .int j, .int c] => if rgOk i j c then .ok ((List.range (stepN i j c)).map (fun (n : Nat) => Dat.int (i + (n : Nat) * c)), []) else .no
  | _ => .no
theorem gRange3_ok {rs : List Rs} {p : List Dat × List Nat} (h : gRange3 rs = .ok p) : ∃ i j c, (rs.map Rs.d : List Dat) = [.int i, .int j, .int c] ∧ rgOk i j c = true ∧ p = ((List.range (stepN i j c)).map (fun (n : Nat) => Dat.int (i + (n : Nat) * c)), []) := by
  unfold gRange3 at h
  split at h
  · rename_i i j c e
    by_cases hr : rgOk i j c = true
    · rw [if_pos hr] at h
      injection h with h
      exact ⟨i, j, c, e, hr, h.symm⟩
    · rw [if_neg hr] at h
      cases h
  · cases h
theorem gRange3_exc {rs : List Rs} {c : Tx} : gRange3 rs ≠ .exc c := fun h => by
  unfold gRange3 at h
  split at h
  · split at h <;> cases h
  · cases h
def iRange3 (a : Sto → Res (List Rs)) : Sto → Res (List Dat × List Nat) := fun E => (a E).bind gRange3
theorem itok_step {G : Glo} {H0 H1 : Hp} {F : Fp} {lo c : Int} {n : Nat} : ItOk G H0 F ((List.range n).map (fun (i : Nat) => Dat.int (lo + (i : Nat) * c))) [] (Itc lo c n) H1 [] (fun _ => True) := by
  refine .ofKp trivial ?_ (fun _ _ _ _ _ _ => trivial) (fun _ _ _ z => nomatch z) (fun _ z => nomatch z)
  have w := (walk_rangeC (lo := lo) (c := c) (n := n))
  rw [List.length_map, List.length_range]
  refine w.mono (fun H g => trivial) fun i H y H' hi g q => ?_
  obtain ⟨e1, ey⟩ := q
  subst e1
  subst ey
  refine ⟨Same.refl _, .int (lo + (i : Nat) * c), [], ?_, mk_int, (fun _ z => nomatch z)⟩
  rw [List.getElem?_map, List.getElem?_range hi]
  rfl
theorem ei_range3 {tg a b c : Expr} {p pos : Pos} {fa : Sto → Res (List Rs)} (hm : X.mg "range" = none) (ha : Ea X W [a, b, c] fa) (hg : Gl X "range" := by rfl)
    (hs : starEach [a, b, c] X.env = (false, eval a X.env) :: starEach [b, c] X.env := by rfl) (hpl : (backTo pos (starEach [b, c] X.env)).any (·.1) = false := by rfl) : Ei X W tg (.Call (.Name "range" p) [a, b, c] [] pos) (iRange3 fa) := by
  refine ⟨weakI (pi_range3 hg hm ha.pa hs hpl) fun σ H R ⟨E, F, re, o⟩ => ?_⟩
  refine ⟨E, F, re, ?_⟩
  unfold iRange3 at o
  cases er : fa E with
  | no =>
    rw [er] at o
    exact o
  | exc cl =>
    rw [er] at o
    exact o
  | ok rs =>
    rw [er, bind_ok] at o
    intro vs H1 fp s1 g
    have rl := g.reps
    have rl : RepL (glo X) H1 (rs.map Rs.d) vs fp := rl
    cases eg : gRange3 rs with
    | no =>
      rw [eg] at o
      exact o.elim
    | exc cl => exact absurd eg gRange3_exc
    | ok p =>
      rw [eg] at o
      obtain ⟨i, j, c', e, h, rfl⟩ := gRange3_ok eg
      rw [e] at rl
      simp only [RepL] at rl
      obtain ⟨v1, _, _, _, rfl, rfl, r1, v2, _, _, _, rfl, rfl, r2, v3, _, _, _, rfl, rfl, r3, rfl, rfl⟩ := rl
      have h' := h
      unfold rgOk at h'
      simp only [Bool.and_eq_true, decide_eq_true_eq] at h'
      obtain ⟨⟨⟨⟨h1, h2⟩, h3⟩, h4⟩, h5⟩ := h'
      exact ⟨i, j, c', stepN i j c', by rw [rep_int r1, rep_int r2, rep_int r3], ⟨h1, h2, h3, h4⟩, o _ H1 [] _ s1 itok_step⟩
end
end PV

namespace PV
open PySem PySem.Spec L2
theorem kit_own {K : PySem.W.Frag} {C D : Addr} {b : Bool} (h1 : PySem.W.isClsIn K D = true) (h2 : PySem.W.typeIn K (.ref D) = some (.type "type")) (h3 : PySem.W.subIn K (.ref C) (.ref D) = some b) (h4 : PySem.W.subIn K (.ref C) (.ref C) = some true) : PySem.W.kitOne K (.ref C) (.ref D) = some b := by
  unfold PySem.W.kitOne
  by_cases e : (Value.ref C == Value.ref D) = true
  · rw [if_pos e]
    have e := eq_of_beq e
    injection e with e
    subst e
    rw [h4] at h3
    exact h3
  · rw [if_neg e]
    unfold PySem.W.kitCls
    simp only
    have h1 : (PySem.W.clsIn K D).isSome = true := h1
    rw [if_pos (by rw [h1, h2]; decide)]
    exact h3
end PV

namespace PV
open PySem PySem.Spec L2
section
variable {X : Cx} {W : WX} {k : Nat}
end
end PV

namespace PV
open PySem PySem.Spec L2
section
variable {prog : Program} {w : World} {A : Around} {E : Value → Shared → Prop} {s : Shared}
end
section
variable {X : Cx} {W : WX} {k : Nat}
end
end PV

namespace PV
open PySem PySem.Spec L2
section
variable {X : Cx} {W : WX} {k : Nat}
/-- a value that is not moved out of its slots -/
def noMv (r : Rs) : Rs := { r with mv := none }
theorem Gv.keep {G : Glo} {H : Hp} {F : Fp} {r : Rs} {v : V} {H' : Hp} {fp : List Addr} (g : Gv G H F r v H' fp) : Gv G H F (noMv r) v H' fp :=
  ⟨g.rep, ⟨g.prv.src, g.prv.rt, fun m e => by cases e⟩⟩
end
end PV

namespace PV
open PySem PySem.Spec L2
section
variable {X : Cx} {W : WX} {k : Nat}
end
end PV

namespace PV
open PySem PySem.Spec L2
section
variable {X : Cx} {W : WX} {k : Nat}
end
end PV

namespace PV
open PySem PySem.Spec L2
section
variable {X : Cx} {W : WX} {k : Nat}
/-- an own class c of errors under the class th, and whether it is one of c2 -/
structure CatK (K : PySem.W.Frag) (mg : Str → Option Value) (th c2 : Str) (c : Tx) (b : Bool) : Prop where
  ex : ∃ T C2 D, mg th = some (.ref T) ∧ mg c2 = some (.ref C2) ∧ mg (mkS c) = some (.ref D) ∧ PySem.W.exmOne K (.ref D) (.ref T) = some true ∧ ExcC K D ∧ PySem.W.kitOne K (.ref D) (.ref C2) = some b
end
end PV

namespace PV
open PySem PySem.Spec L2
section
variable {K : PySem.W.Frag} {mg : Str → Option Value} {th c2 : Str}
theorem cat_nil : ∀ (c : Tx) (b : Bool), ([] : List (Tx × Bool)).lookup c = some b → CatK K mg th c2 c b := fun c b h => nomatch h
theorem cat_cons {c0 : Tx} {b0 : Bool} {l : List (Tx × Bool)} (h : CatK K mg th c2 c0 b0) (t : ∀ c b, l.lookup c = some b → CatK K mg th c2 c b) : ∀ (c : Tx) (b : Bool), ((c0, b0) :: l).lookup c = some b → CatK K mg th c2 c b := fun c b e => by
  unfold List.lookup at e
  by_cases q : (c == c0) = true
  · rw [q] at e
    simp only at e
    injection e with e
    subst e
    rw [eq_of_beq q]
    exact h
  · have q : (c == c0) = false := by simpa using q
    rw [q] at e
    exact t c b e
theorem CatK.hth {c : Tx} {b : Bool} (h : CatK K mg th c2 c b) : ∃ T, mg th = some (.ref T) := let ⟨T, _, _, e, _⟩ := h.ex; ⟨T, e⟩
theorem cat_mk {T C D : Addr} {c : Tx} {b : Bool} (m1 : mg th = some (.ref T)) (m2 : mg c2 = some (.ref C)) (m3 : mg (mkS c) = some (.ref D)) (h1 : PySem.W.subIn K (.ref T) (.type "BaseException") = some true) (h2 : PySem.W.hasDictIn K T = true) (h3 : PySem.W.typeIn K (.ref T) = some (.type "type")) (h4 : PySem.W.subIn K (.ref D) (.ref T) = some true)
    (e : ExcC K D) (i1 : PySem.W.isClsIn K C = true) (i2 : PySem.W.typeIn K (.ref C) = some (.type "type")) (i3 : PySem.W.subIn K (.ref D) (.ref C) = some b) (i4 : PySem.W.subIn K (.ref D) (.ref D) = some true) : CatK K mg th c2 c b :=
  ⟨T, C, D, m1, m2, m3, PySem.W.exm_ref h1 h2 h3 h4, e, kit_own i1 i2 i3 i4⟩
end
end PV

namespace PV
open PySem PySem.Spec L2 PyProof.Rows
section
variable {P : Program} {w : World} {A : Around} {E : Value → Shared → Prop} {s : Shared}
end
section
variable {X : Cx} {W : WX} {k : Nat}
end
end PV

namespace PV
open PySem PySem.Spec L2
section
variable {X : Cx} {W : WX} {k : Nat}
end
end PV

namespace PV
open PySem PySem.Spec L2
end PV

namespace PV
open PySem PySem.Spec L2
section
variable {X : Cx} {W : WX} {k : Nat}
end
end PV

namespace PV
open PySem PySem.Spec L2
mutual
/-- no instance within -/
def noIns : Dat → Bool
  | .ins _ _ _ => false
  | .tup xs => noInsL xs
  | .lst xs => noInsL xs
  | .rol xs => noInsL xs
  | .dic _ xs => noInsL xs
  | _ => true
def noInsL : List Dat → Bool
  | [] => true
  | x :: xs => noIns x && noInsL xs
end
mutual
theorem Rep.noIns {G : Glo} {H : Hp} {l : Addr} {C : Addr} {dx : Addr} {fs : List (Str × V)} (hl : H l = some (.ins C dx fs)) : ∀ (d : Dat) (v : V) (fp : List Addr), Rep G H d v fp → PV.noIns d = true → l ∉ fp
  | .non, _, _, h, _ => by
    simp only [Rep] at h
    simp [h.2]
  | .bl _, _, _, h, _ => by
    simp only [Rep] at h
    simp [h.2]
  | .int _, _, _, h, _ => by
    simp only [Rep] at h
    simp [h.2]
  | .str _, _, _, h, _ => by
    simp only [Rep] at h
    simp [h.2]
  | .fn _, _, _, h, _ => by
    simp only [Rep] at h
    obtain ⟨_, _, _, e⟩ := h
    simp [e]
  | .ins _ _ _, _, _, _, n => by
    unfold PV.noIns at n
    cases n
  | .tup xs, v, fp, h, n => by
    simp only [Rep] at h
    obtain ⟨a, vs, e, q, r⟩ := h
    exact RepL.noIns hl xs vs fp r (by simpa only [PV.noIns] using n)
  | .rol xs, v, fp, h, n => by
    simp only [Rep] at h
    obtain ⟨a, vs, e, q, r⟩ := h
    exact RepL.noIns hl xs vs fp r (by simpa only [PV.noIns] using n)
  | .lst xs, v, fp, h, n => by
    simp only [Rep] at h
    obtain ⟨a, vs, f, e, q, r, ef⟩ := h
    subst ef
    intro z
    rcases List.mem_cons.mp z with z | z
    · subst z
      rw [hl] at q
      cases q
    · exact RepL.noIns hl xs vs f r (by simpa only [PV.noIns] using n) z
  | .dic ks ds, v, fp, h, n => by
    simp only [Rep] at h
    obtain ⟨a, vs, f, e, q, _, r, ef⟩ := h
    subst ef
    intro z
    rcases List.mem_cons.mp z with z | z
    · subst z
      rcases q with q | ⟨o, q⟩ <;> rw [hl] at q <;> cases q
    · exact RepL.noIns hl ds vs f r (by simpa only [PV.noIns] using n) z
theorem RepL.noIns {G : Glo} {H : Hp} {l : Addr} {C : Addr} {dx : Addr} {fs : List (Str × V)} (hl : H l = some (.ins C dx fs)) : ∀ (ds : List Dat) (vs : List V) (fp : List Addr), RepL G H ds vs fp → noInsL ds = true → l ∉ fp
  | [], _, _, h, _ => by
    simp only [RepL] at h
    simp [h.2]
  | d :: ds, vs, fp, h, n => by
    simp only [RepL] at h
    obtain ⟨v, vs', f, f', e1, e2, r, rr⟩ := h
    subst e2
    unfold noInsL at n
    rw [Bool.and_eq_true] at n
    intro z
    rcases List.mem_append.mp z with z | z
    · exact Rep.noIns hl d v f r n.1 z
    · exact RepL.noIns hl ds vs' f' rr n.2 z
end
/-- within a method: all ahead of the writing reads alone -/
structure MI (G : Glo) (H0 : Hp) (l : Addr) (f0 : List Addr) (E : Sto) (σ : L2.St) (H : Hp) (F : Fp) : Prop where
  rep : RepE G H E σ F
  pin : σ[0]? = some (some (.ref l))
  fix : F 0 = l :: f0
  sm : Same H0 H
  shr : ∀ i d k, slot E i = some (d, k) → k = .shr
/-- behind a method: the new field, what is told -/
def MPost (G : Glo) (H0 : Hp) (l : Addr) (f0 : List Addr) (c xt : Tx) (d1 d : Dat) (v : V) (H' : Hp) : Prop :=
  ∃ C dx u1 f1 g, G.mg (mkS c) = some (.ref C) ∧ H' l = some (.ins C dx [(mkS xt, u1)]) ∧ Rep G H' d1 u1 f1 ∧ l ∉ f1 ∧ (∀ a ∈ f1, H0 a = none ∨ a ∈ f0) ∧
    Rep G H' d v g ∧ g.Nodup ∧ (∀ a ∈ g, H0 a = none ∧ Wr H' a ∧ a ≠ l ∧ a ∉ f1) ∧ ∀ b o, b ≠ l → H0 b = some o → H' b = some o
def OutM (X : Cx) (W : WX) (H0 : Hp) (l : Addr) (f0 : List Addr) (c xt : Tx) (D : Ends) (o : Res (Dat × Dat)) : Prop := match o with
  | .ok p => ∀ v H', MPost (glo X) H0 l f0 c xt p.1 p.2 v H' → D.rt v H'
  | .exc cl => ∀ C σ' H', X.mg (mkS cl) = some (.ref C) → Same H0 H' → W (.ref C) none σ' H'
  | .no => False
abbrev MFn := Sto → Res (Dat × Dat)
def tEm (X : Cx) (W : WX) (c xt : Tx) (h : MFn) : TS := fun D σ H => ∃ H0 l f0 E F, MI (glo X) H0 l f0 E σ H F ∧ OutM X W H0 l f0 c xt D (h E)
structure EssM (X : Cx) (W : WX) (c xt : Tx) (st : List Stmt) (h : MFn) : Prop where
  pss : PSs X st (tEm X W c xt h)
section
variable {X : Cx} {W : WX} {k : Nat} {c xt : Tx}
theorem MI.same {G : Glo} {H0 : Hp} {l : Addr} {f0 : List Addr} {E : Sto} {σ : L2.St} {H H1 : Hp} {F : Fp} (m : MI G H0 l f0 E σ H F) (s : Same H H1) : MI G H0 l f0 E σ H1 F := ⟨m.rep.same s, m.pin, m.fix, m.sm.trans s, m.shr⟩
theorem MI.toR {G : Glo} {H0 : Hp} {l : Addr} {f0 : List Addr} {E : Sto} {σ : L2.St} {H : Hp} {F : Fp} (m : MI G H0 l f0 E σ H F) : R G ⟨H0, [], [], fun _ => True, fun _ => none⟩ E σ H F := by
  have kdn : ∀ i, kd E i = .shr := fun i => by
    unfold kd
    cases e : slot E i with
    | none => rfl
    | some x => exact m.shr i x.1 x.2 e
  refine ⟨m.rep, fun i a ha => ?_, fun i e => ?_, fun i e => ?_, fun i j n a ha => ?_, (fun _ z => nomatch z), (fun _ z => nomatch z), fun i a ha => .inr trivial, fun b o h => .inl (m.sm b o h), fun i e => ?_⟩
  · unfold Ow at ha
    rw [kdn] at ha
    cases ha
  · rw [kdn] at e
    cases e
  · rw [kdn] at e
    cases e
  · unfold Sw at ha
    rw [kdn] at ha
    cases ha
  · rw [kdn] at e
    cases e
theorem seqM {f : Sto → Res Rs} {H0 : Hp} {l : Addr} {f0 : List Addr} {E : Sto} {F : Fp} {σ : L2.St} {H : Hp} {kk : Rs → Res (Dat × Dat)} {D : Ends} {Q' : VK} (m : MI (glo X) H0 l f0 E σ H F) (o : OutM X W H0 l f0 c xt D ((f E).bind kk))
    (h : ∀ r v H1 fp, f E = .ok r → Same H H1 → Gv (glo X) H F r v H1 fp → OutM X W H0 l f0 c xt D (kk r) → Q' v H1) : tEv X W f σ H Q' := by
  refine ⟨E, F, m.rep, ?_⟩
  cases e : f E with
  | no =>
    rw [e] at o
    exact o
  | exc cl =>
    rw [e] at o
    exact fun C H' q s => o C σ H' q (m.sm.trans s)
  | ok r =>
    intro v H1 fp s1 g
    rw [e] at o
    exact h r v H1 fp e s1 g o
def mDrop (f : Sto → Res Rs) (h : MFn) : MFn := fun E => (f E).bind fun _ => h E
theorem em_drop {e : Expr} {rest : List Stmt} {pos : Pos} {f : Sto → Res Rs} {h : MFn} (he : Ev X W e f) (hr : EssM X W c xt rest h) (hs : swapsWith e none pos.line X.env = pure false := by rfl) : EssM X W c xt (.Expr e pos :: rest) (mDrop f h) := by
  refine ⟨weakSs (pss_cons (ps_expr he.pe hs) hr.pss) fun D σ H ⟨H0, l, f0, E, F, m, o⟩ => ?_⟩
  exact seqM m o fun r v H1 fp e s1 g o1 => ⟨H0, l, f0, E, F, m.same s1, o1⟩
def mIf (t : Sto → Res Bool) (g : Sto → Res Fl) (h : MFn) : MFn := fun E => (t E).bind fun b => match b with
  | true => match g E with
    | .exc c => .exc c
    | _ => .no
  | false => h E
theorem em_if {test : Expr} {body rest : List Stmt} {pos : Pos} {t : Sto → Res Bool} {g : Sto → Res Fl} {h : MFn} (ht : Et X W test t) (hb : Ess X W body g) (hr : EssM X W c xt rest h) : EssM X W c xt (.If test body [] pos :: rest) (mIf t g h) := by
  refine ⟨weakSs (pss_cons (ps_if ht.pt hb.pss pss_nil) hr.pss) fun D σ H ⟨H0, l, f0, E, F, m, o⟩ => ?_⟩
  refine ⟨E, F, m.rep, ?_⟩
  unfold mIf at o
  cases e : t E with
  | no =>
    rw [e] at o
    exact o
  | exc cl =>
    rw [e] at o
    exact fun C H' q s => o C σ H' q (m.sm.trans s)
  | ok b =>
    rw [e] at o
    intro H1 s1
    cases b with
    | false =>
      rw [if_neg Bool.false_ne_true]
      exact ⟨H0, l, f0, E, F, m.same s1, o⟩
    | true =>
      rw [if_pos rfl]
      refine ⟨_, E, F, (m.same s1).toR, ?_⟩
      have o : OutM X W H0 l f0 c xt D (match g E with | .exc c => .exc c | _ => .no) := o
      cases eg : g E with
      | no =>
        rw [eg] at o
        exact o
      | ok fl =>
        rw [eg] at o
        exact o.elim
      | exc cl =>
        rw [eg] at o
        exact fun C σ' H' q fr => o C σ' H' q fun b u z => (fr b u z).elim id fun ⟨w, _⟩ => nomatch w
def mSet (i : Nat) (f : Sto → Res Rs) (h : MFn) : MFn := fun E => (f E).bind fun r => if i < E.length ∧ i ≠ 0 then h (E.set i (some (r.d, .shr))) else .no
theorem em_set {st : Stmt} {rest : List Stmt} {i : Nat} {f : Sto → Res Rs} {h : MFn} (p : PAsg X W st i f) (hr : EssM X W c xt rest h) : EssM X W c xt (st :: rest) (mSet i f h) := by
  refine ⟨weakSs (pss_cons p.ps hr.pss) fun D σ H ⟨H0, l, f0, E, F, m, o⟩ => ?_⟩
  refine seqM m o fun r v H1 fp e s1 g o1 => ?_
  by_cases hi : i < E.length ∧ i ≠ 0
  · rw [if_pos hi] at o1
    obtain ⟨hl, h0⟩ := hi
    have m1 := m.same s1
    refine ⟨H0, l, f0, _, _, ⟨m1.rep.set hl g.rep, ?_, ?_, m1.sm, fun j d kk e => ?_⟩, o1⟩
    · rw [List.getElem?_set_ne h0]
      exact m1.pin
    · simp only [if_neg (fun z : (0 : Nat) = i => h0 z.symm)]
      exact m1.fix
    · rw [slot_set hl] at e
      by_cases hj : j = i
      · rw [if_pos hj] at e
        injection e with e
        injection e with _ e
        exact e.symm
      · rw [if_neg hj] at e
        exact m1.shr j d kk e
  · rw [if_neg hi] at o1
    exact o1.elim
/-- slots beyond the first hold no instance -/
def restN (E : Sto) : Bool := E.tail.all fun s => match s with
  | some (d, _) => noIns d
  | none => true
theorem restN_at {E : Sto} (h : restN E = true) {i : Nat} (hi : i ≠ 0) {d : Dat} {kk : Kd} (e : slot E i = some (d, kk)) : noIns d = true := by
  unfold restN at h
  rw [List.all_eq_true] at h
  have e1 := slot_some e
  cases E with
  | nil => simp at e1
  | cons x E =>
    cases i with
    | zero => exact absurd rfl hi
    | succ i =>
      simp only [List.getElem?_cons_succ] at e1
      exact h _ (List.mem_of_getElem? e1)
/-- self.x = e1; return e2 -/
def mTail (c xt : Tx) (f1 f2 : Sto → Res Rs) : MFn := fun E => (f1 E).bind fun r1 => match slot E 0 with
  | some (.ins c' [x'] [_], _) => if c' = c ∧ x' = xt ∧ noIns r1.d = true ∧ r1.src.all (fun i => i == 0) = true ∧ restN E = true then
      (match f2 (E.set 0 (some (.ins c [xt] [r1.d], .shr))) with
      | .ok r2 => if r2.mv = some [] ∧ noIns r2.d = true then .ok (r1.d, r2.d) else .no
      | _ => .no) else .no
  | _ => .no
theorem em_tail {o e1 e2 : Expr} {x : Str} {f1 f2 : Sto → Res Rs} {p1 p2 p3 : Pos} (A : AttK X.K X.mg x c) (ho : PE X o (tVar 0)) (h1 : Ev X W e1 f1) (h2 : Ev X W e2 f2) (hx : mkS xt = x := by rfl)
    (hs : swapsWith e1 (some (.Attribute o x p1)) p2.line X.env = pure false := by rfl) : EssM X W c xt [.Assign [.Attribute o x p1] e1 p2, .Return (some e2) p3] (mTail c xt f1 f2) := by
  refine ⟨weakSs (pss_cons (ps_fld ho h1.pe hs) (pss_one (ps_ret h2.pe))) fun D σ H ⟨H0, l, f0, E, F, m, o⟩ => ?_⟩
  refine seqM m o fun r1 y H1 fp1 e s1 g1 o1 => ?_
  have m1 := m.same s1
  refine ⟨.ref l, m1.pin, ?_⟩
  cases es : slot E 0 with
  | none =>
    rw [es] at o1
    exact o1.elim
  | some q =>
    rw [es] at o1
    obtain ⟨d, kk⟩ := q
    cases d <;> try exact o1.elim
    rename_i c' ks ds
    match ks, ds, es, o1 with
    | [x'], [d0], es, o1 =>
      simp only at o1
      by_cases hc : c' = c ∧ x' = xt ∧ noIns r1.d = true ∧ r1.src.all (fun i => i == 0) = true ∧ restN E = true
      · rw [if_pos hc] at o1
        obtain ⟨rfl, rfl, hn1, hsrc, hrest⟩ := hc
        obtain ⟨v0, q1, q2⟩ := m1.rep.rep 0 _ _ es
        rw [m1.pin] at q1
        injection q1 with q1
        injection q1 with q1
        subst q1
        simp only [Rep] at q2
        obtain ⟨a, C, dx, vs, f, ea, w1, w2, w3, w4, w5⟩ := q2
        injection ea with ea
        subst ea
        have hvs : ∃ u0, vs = [u0] := by
          cases vs with
          | nil => simp at w3
          | cons u vs =>
            cases vs with
            | nil => exact ⟨u, rfl⟩
            | cons _ _ => simp at w3
        obtain ⟨u0, rfl⟩ := hvs
        obtain ⟨C', mm, cl, na⟩ := A.ex
        have eC : C' = C := by
          rw [w1] at mm
          injection mm with mm
          injection mm with mm
          exact mm.symm
        subst eC
        refine ⟨l, C', dx, _, rfl, w2, cl, na, (show (1 : Nat) < 1000 by decide), ?_⟩
        have hput : putF x y (fsOf [x'] [u0]) = [(mkS x', y)] := by
          rw [← hx]
          simp [fsOf, putF]
        rw [hput]
        have wr : Wr H1 l := ⟨_, w2, rfl⟩
        have kp := Kp.upd (o := HO.ins C' dx [(mkS x', y)]) wr
        have n1 : l ∉ fp1 := Rep.noIns w2 _ _ _ g1.rep hn1
        have nF : ∀ j, j ≠ 0 → l ∉ F j := fun j hj => by
          cases ej : slot E j with
          | none =>
            rw [m1.rep.emp j ej]
            exact fun z => nomatch z
          | some p =>
            obtain ⟨v, _, z2⟩ := m1.rep.rep j p.1 p.2 ej
            exact Rep.noIns w2 _ _ _ z2 (restN_at hrest hj ej)
        have hlt : 0 < E.length := slot_lt es
        have rs : Rep (glo X) (upd H1 l (HO.ins C' dx [(mkS x', y)])) (.ins c' [x'] [r1.d]) (.ref l) (l :: fp1) := by
          simp only [Rep]
          exact ⟨l, C', dx, [y], fp1, rfl, w1, upd_same, rfl, RepL.one (Rep.kp kp _ _ _ g1.rep (not_in n1)), rfl⟩
        have re2 : RepE (glo X) (upd H1 l (HO.ins C' dx [(mkS x', y)])) (E.set 0 (some (.ins c' [x'] [r1.d], .shr))) σ (fun j => if j = 0 then l :: fp1 else F j) := by
          refine ⟨by rw [List.length_set]; exact m1.rep.len, fun i d kd e => ?_, fun i e => ?_⟩
          · rw [slot_set hlt] at e
            by_cases hi : i = 0
            · rw [if_pos hi] at e
              injection e with e
              injection e with e _
              subst e
              subst hi
              exact ⟨.ref l, m1.pin, rs⟩
            · rw [if_neg hi] at e
              obtain ⟨v, z1, z2⟩ := m1.rep.rep i d kd e
              refine ⟨v, z1, ?_⟩
              simp only [if_neg hi]
              exact Rep.kp kp _ _ _ z2 (not_in (nF i hi))
          · rw [slot_set hlt] at e
            by_cases hi : i = 0
            · rw [if_pos hi] at e
              cases e
            · rw [if_neg hi] at e
              simp only [if_neg hi]
              exact m1.rep.emp i e
        refine ⟨_, _, re2, ?_⟩
        cases e2 : f2 (E.set 0 (some (.ins c' [x'] [r1.d], .shr))) with
        | no =>
          rw [e2] at o1
          exact o1.elim
        | exc _ =>
          rw [e2] at o1
          exact o1.elim
        | ok r2 =>
          rw [e2] at o1
          simp only at o1
          by_cases hr : r2.mv = some [] ∧ noIns r2.d = true
          · rw [if_pos hr] at o1
            obtain ⟨hm, hn2⟩ := hr
            intro v H3 g s3 g3
            have hl3 : H3 l = some (.ins C' dx [(mkS x', y)]) := s3 _ _ upd_same
            obtain ⟨fr, z1, z2, z3⟩ := g3.prv.mv _ hm
            simp only [List.map_nil, List.flatten_nil, List.append_nil] at z1
            have up : ∀ a, H1 a ≠ none → upd H1 l (HO.ins C' dx [(mkS x', y)]) a ≠ none := fun a ha => by
              by_cases q : a = l
              · subst q
                rw [upd_same]
                exact fun z => nomatch z
              · rw [upd_ne q]
                exact ha
            have nn : ∀ a, upd H1 l (HO.ins C' dx [(mkS x', y)]) a = none → H0 a = none := fun a ha => by
              cases h0 : H0 a with
              | none => rfl
              | some ob => exact absurd ha (up a (by rw [m1.sm _ _ h0]; exact fun z => nomatch z))
            refine o1 v H3 ⟨C', dx, y, fp1, g, w1, hl3, (Rep.kp kp _ _ _ g1.rep (not_in n1)).same s3, n1, fun a ha => ?_, g3.rep, z1.nodup_iff.mpr z2, fun a ha => ?_, fun b ob hb e => s3 _ _ (by rw [upd_ne hb]; exact m1.sm _ _ e)⟩
            · rcases g1.prv.src a ha with q | ⟨i, hi, q⟩
              · exact .inl (m.sm.free q)
              · have i0 : i = 0 := by
                  have := List.all_eq_true.mp hsrc i hi
                  exact of_decide_eq_true this
                subst i0
                rw [m.fix] at q
                rcases List.mem_cons.mp q with q | q
                · exact absurd (q ▸ ha) n1
                · exact .inr q
            · have ⟨q1, q2⟩ := z3 a (z1.mem_iff.mp ha)
              refine ⟨nn a q1, q2, fun z => ?_, fun z => up a (Rep.trk _ _ _ g1.rep a z) q1⟩
              subst z
              rw [upd_same] at q1
              cases q1
          · rw [if_neg hr] at o1
            exact o1.elim
      · rw [if_neg hc] at o1
        exact o1.elim
    | [], _, es, o1 => exact o1.elim
    | _ :: _ :: _, _, es, o1 => exact o1.elim
    | [_], [], es, o1 => exact o1.elim
    | [_], _ :: _ :: _, es, o1 => exact o1.elim
end
abbrev MCon := Dat → List Dat → Res (Dat × Dat)
def spM (G : Glo) (c xt : Tx) (n : Nat) (con : MCon) : Sp := fun vs H Q E => ∃ l C dx u0 d0 f0 ds ws fp, vs = .ref l :: ws ∧ G.mg (mkS c) = some (.ref C) ∧ H l = some (.ins C dx [(mkS xt, u0)]) ∧ Rep G H d0 u0 f0 ∧ RepL G H ds ws fp ∧ ws.length + 1 = n ∧ match con d0 ds with
  | .ok p => ∀ v H', MPost G H l f0 c xt p.1 p.2 v H' → Q v H'
  | .exc cl => ∀ C' H', G.mg (mkS cl) = some (.ref C') → Same H H' → E (.ref C') none H'
  | .no => False
def runM (N n : Nat) (c xt : Tx) (h : MFn) : MCon := fun d0 ds => if ds.length + 1 = n then h (startE N (.ins c [xt] [d0] :: ds)) else .no
section
variable {P : Program} {w : World} {K : PySem.W.Frag} {mg : Str → Option Value} {base : Heap}
theorem fn_pm {x qual : Str} {st : Stmt} {f : Addr} {fd : FuncData} {N ps : List Str} {k n : Nat} {c xt : Tx} {h : MFn} {con : MCon} (F : Fun K x qual st f fd) (S : FnScope N ps (defScope st)) (hn : ps.length = n)
    (hb : ∀ (cdv : Value) (A : Around) (outer : List Env) (s : Shared) (H : Hp) (E : XK), XOk k (cxOf (L2.CX P w) P w K mg base N qual (defScope st) f cdv A outer s H E) →
      Takes (cxOf (L2.CX P w) P w K mg base N qual (defScope st) f cdv A outer s H E) (fun cls d _ H => E cls d H) →
      PassesOwn (model P w) (cxOf (L2.CX P w) P w K mg base N qual (defScope st) f cdv A outer s H E).A (cxOf (L2.CX P w) P w K mg base N qual (defScope st) f cdv A outer s H E).env (cxOf (L2.CX P w) P w K mg base N qual (defScope st) f cdv A outer s H E).xe →
      EssM (cxOf (L2.CX P w) P w K mg base N qual (defScope st) f cdv A outer s H E) (fun cls d _ H => E cls d H) c xt (defBody st) h)
    (hc : ∀ d0 ds, runM N.length n c xt h d0 ds = con d0 ds := by exact fun _ _ => rfl) : FnOk P w K mg base (L2.CX P w) (k + 1) f fd ps (spM ⟨K, mg⟩ c xt n con) := by
  refine F.okX S (fun vs H Q E ⟨l, C, dx, u0, d0, f0, ds, ws, fp, e, _, _, _, _, ll, _⟩ => by rw [e, List.length_cons, ll, hn]) fun cdv A outer s H vs Q E hr ⟨l, C, dx, u0, d0, f0, ds, ws, fp, ev, hC, hl, rd, rl, ln, h'⟩ => ?_
  subst ev
  have C0 : XOk k (cxOf (L2.CX P w) P w K mg base N qual (defScope st) f cdv A outer s H E) := ⟨rfl, S.nd, hr⟩
  refine ⟨_, (hb cdv A outer s H E C0 (takes_of rfl rfl rfl rfl) (passes_of rfl)).pss, ?_⟩
  have rs : Rep ⟨K, mg⟩ H (.ins c [xt] [d0]) (.ref l) (l :: f0) := by
    simp only [Rep]
    exact ⟨l, C, dx, [u0], f0, rfl, hC, hl, rfl, RepL.one rd, rfl⟩
  obtain ⟨F0, r0⟩ := R.start (N := N) (RepL.cons rs rl)
  have hs0 : slot (startE N.length (.ins c [xt] [d0] :: ds)) 0 = some (.ins c [xt] [d0], .shr) := rfl
  -- the account of slot 0 is what it is
  have re : RepE ⟨K, mg⟩ H (startE N.length (.ins c [xt] [d0] :: ds)) (L2.start N (.ref l :: ws)) (fun j => if j = 0 then l :: f0 else F0 j) := by
    refine ⟨r0.rep.len, fun i d kk e => ?_, fun i e => ?_⟩
    · by_cases hi : i = 0
      · subst hi
        rw [hs0] at e
        injection e with e
        injection e with e _
        subst e
        exact ⟨.ref l, start_at rfl, rs⟩
      · obtain ⟨v, z1, z2⟩ := r0.rep.rep i d kk e
        refine ⟨v, z1, ?_⟩
        simp only [if_neg hi]
        exact z2
    · by_cases hi : i = 0
      · subst hi
        rw [hs0] at e
        cases e
      · simp only [if_neg hi]
        exact r0.rep.emp i e
  refine ⟨H, l, f0, _, _, ⟨re, start_at rfl, rfl, Same.refl H, fun i d kk e => (slot_start e).2⟩, ?_⟩
  have ld : ds.length + 1 = n := by
    rw [← rl.len]
    exact ln
  have hcd := hc d0 ds
  unfold runM at hcd
  rw [if_pos ld] at hcd
  rw [hcd]
  cases e : con d0 ds with
  | no =>
    rw [e] at h'
    exact h'
  | exc cl =>
    rw [e] at h'
    exact fun C' σ' H' m s => h' C' H' m s
  | ok p =>
    rw [e] at h'
    exact h'
end
end PV

namespace PV
open PySem PySem.Spec L2
/-- what a caller knows of a method that writes its object's field -/
def MetM (P : Program) (w : World) (K : PySem.W.Frag) (mg : Str → Option Value) (base : Heap) (k : Nat) (c xt : Tx) (m : Str) (n : Nat) (con : MCon) : Prop :=
  ∃ C f fd ps j, mg (mkS c) = some (.ref C) ∧ Cls K C ∧ Meth K C m f ∧ FnOk P w K mg base (L2.CX P w) j f fd ps (spM ⟨K, mg⟩ c xt n con) ∧ Binds K fd ps [] ∧ j ≤ k
theorem kf_but {H H' : Hp} {l : Addr} {C dx : Addr} {fs : List (Str × V)} (hl : H l = some (.ins C dx fs)) (h : ∀ b o, b ≠ l → H b = some o → H' b = some o) : Kf [l] H H' := by
  have ne : ∀ b o, H b = some o → o ≠ .ins C dx fs → b ≠ l := fun b o e n z => by
    subst z
    rw [hl] at e
    injection e with e
    exact n e.symm
  refine ⟨⟨fun b xs n e => h b _ (fun z => n (by simp [z])) e, fun b u n r => ?_, fun b xs ⟨o, e⟩ => ⟨o, h b _ (ne b _ e (fun z => nomatch z)) e⟩, fun b C dx fs n e => h b _ (fun z => n (by simp [z])) e, fun b xs r => ?_⟩, fun b ob u e => h b _ (ne b _ e (fun z => nomatch z)) e⟩
  · have nb : b ≠ l := fun z => n (by simp [z])
    rcases r with r | ⟨o, r⟩
    · exact .inl (h b _ nb r)
    · exact .inr ⟨o, h b _ nb r⟩
  · rcases r with r | ⟨o, r⟩
    · exact .inl (h b _ (ne b _ r (fun z => nomatch z)) r)
    · exact .inr ⟨o, h b _ (ne b _ r (fun z => nomatch z)) r⟩
/-- an object of one field in a slot that owns it -/
theorem R.ins1 {G : Glo} {B : Fx} {E : Sto} {σ : L2.St} {H : Hp} {F : Fp} {i : Nat} {c x : Tx} {d0 : Dat} {kk : Kd} (r : R G B E σ H F) (hs : slot E i = some (.ins c [x] [d0], kk)) (hw : kk.w = true) :
    ∃ l C dx u0 f0, σ[i]? = some (some (.ref l)) ∧ F i = l :: f0 ∧ G.mg (mkS c) = some (.ref C) ∧ H l = some (.ins C dx [(mkS x, u0)]) ∧ Rep G H d0 u0 f0 ∧ l ∈ Ow E F i := by
  obtain ⟨v, q1, q2⟩ := r.rep.rep i _ _ hs
  simp only [Rep] at q2
  obtain ⟨a, C, dx, vs, f, ev, w1, w2, w3, w4, w5⟩ := q2
  subst ev
  have hvs : ∃ u0, vs = [u0] := by
    cases vs with
    | nil => simp at w3
    | cons u vs =>
      cases vs with
      | nil => exact ⟨u, rfl⟩
      | cons _ _ => simp at w3
  obtain ⟨u0, rfl⟩ := hvs
  simp only [RepL] at w4
  obtain ⟨v, vs', g1, g2, e1, e2, r1, e3, e4⟩ := w4
  injection e1 with e1 _
  subst e1
  subst e4
  rw [List.append_nil] at e2
  subst e2
  refine ⟨a, C, dx, u0, f, q1, w5, w1, w2, r1, ?_⟩
  unfold Ow
  have hk : kd E i = kk := by
    unfold kd
    rw [hs]
  rw [hk, w5]
  cases kk <;> first | exact List.mem_cons_self | (simp [owK]; done) | cases hw
theorem R.call {G : Glo} {B : Fx} {E : Sto} {σ : L2.St} {H H' : Hp} {F : Fp} {i : Nat} {c x : Tx} {d0 d1 d : Dat} {kk : Kd} {l : Addr} {f0 : List Addr} {C dx : Addr} {fs : List (Str × V)} {v : V} (r : R G B E σ H F) (hs : slot E i = some (.ins c [x] [d0], kk))
    (hi : σ[i]? = some (some (.ref l))) (hF : F i = l :: f0) (hl : H l = some (.ins C dx fs)) (ho : l ∈ Ow E F i) (p : MPost G H l f0 c x d1 d v H') :
    ∃ F' g, R G B (E.set i (some (.ins c [x] [d1], .root))) σ H' F' ∧ Hand G B (E.set i (some (.ins c [x] [d1], .root))) F' H' d .deep v g := by
  obtain ⟨C', dx', u1, f1, g, w1, w2, w3, w4, w5, w6, w7, w8, w9⟩ := p
  have hlt : i < E.length := slot_lt hs
  have kf := kf_but hl w9
  have lF : ∀ j, j ≠ i → l ∉ F j := fun j hj => r.sep i j (fun z => hj z.symm) l (ow_sw ho)
  have trk : ∀ j, ∀ a ∈ F j, H a ≠ none := fun j => r.rep.trk j
  have keep : ∀ a, a ≠ l → Wr H a → Wr H' a := fun a na ⟨o, e, z⟩ => ⟨o, w9 a o na e, z⟩
  have f1F : ∀ a ∈ f1, ∀ j, j ≠ i → ∀ b ∈ Sw E F j, a ≠ b := fun a ha j hj b hb e => by
    subst e
    rcases w5 a ha with q | q
    · exact trk j a (swK_sub a hb) q
    · exact r.sep j i hj a hb (by rw [hF]; exact List.mem_cons_of_mem _ q)
  have ow : ∀ j, Ow (E.set i (some (.ins c [x] [d1], .root))) (fun j => if j = i then l :: f1 else F j) j = if j = i then [l] else Ow E F j := by
    intro j
    unfold Ow
    rw [kd_set hlt]
    by_cases hj : j = i
    · simp [hj, owK]
    · simp [hj]
  have sw : ∀ j, Sw (E.set i (some (.ins c [x] [d1], .root))) (fun j => if j = i then l :: f1 else F j) j = if j = i then [l] else Sw E F j := by
    intro j
    unfold Sw
    rw [kd_set hlt]
    by_cases hj : j = i
    · simp [hj, swK]
    · simp [hj]
  have r' : R G B (E.set i (some (.ins c [x] [d1], .root))) σ H' (fun j => if j = i then l :: f1 else F j) := by
    refine ⟨⟨by rw [List.length_set]; exact r.rep.len, fun j d kd e => ?_, fun j e => ?_⟩, fun j a ha => ?_, fun j e => ?_, fun j e => ?_, fun j n hjn a ha => ?_, r.pro, fun t ht => ⟨?_, fun j a ha => ?_⟩, fun j a ha => ?_, fun b o e => ?_, fun j e => ?_⟩
    · rw [slot_set hlt] at e
      by_cases hj : j = i
      · rw [if_pos hj] at e
        injection e with e
        injection e with e _
        subst e
        subst hj
        refine ⟨.ref l, hi, ?_⟩
        simp only [if_true, Rep]
        exact ⟨l, C', dx', [u1], f1, rfl, w1, w2, rfl, RepL.one w3, rfl⟩
      · rw [if_neg hj] at e
        obtain ⟨v, z1, z2⟩ := r.rep.rep j d kd e
        refine ⟨v, z1, ?_⟩
        simp only [if_neg hj]
        exact Rep.kp kf.kp _ _ _ z2 (not_in (lF j hj))
    · rw [slot_set hlt] at e
      by_cases hj : j = i
      · rw [if_pos hj] at e
        cases e
      · rw [if_neg hj] at e
        simp only [if_neg hj]
        exact r.rep.emp j e
    · rw [ow] at ha
      by_cases hj : j = i
      · rw [if_pos hj] at ha
        rw [List.mem_singleton.mp ha]
        exact ⟨⟨_, w2, rfl⟩, (r.own i l ho).2⟩
      · rw [if_neg hj] at ha
        have na : a ≠ l := fun z => lF j hj (z ▸ owK_sub a ha)
        exact ⟨keep a na (r.own j a ha).1, (r.own j a ha).2⟩
    · rw [kd_set hlt] at e
      by_cases hj : j = i
      · rw [if_pos hj] at e
        cases e
      · rw [if_neg hj] at e
        simp only [if_neg hj]
        exact r.nod j e
    · rw [kd_set hlt] at e
      by_cases hj : j = i
      · simp only [if_pos hj]
        exact ⟨l, f1, rfl, w4⟩
      · rw [if_neg hj] at e
        simp only [if_neg hj]
        exact r.rot j e
    · rw [sw] at ha
      by_cases hj : j = i
      · rw [if_pos hj] at ha
        have hn : n ≠ i := fun e => hjn (hj.trans e.symm)
        simp only [if_neg hn]
        rw [List.mem_singleton.mp ha]
        exact lF n hn
      · rw [if_neg hj] at ha
        by_cases hn : n = i
        · simp only [if_pos hn]
          intro z
          rcases List.mem_cons.mp z with z | z
          · subst z
            exact lF j hj (swK_sub a ha)
          · exact f1F a z j hj a ha rfl
        · simp only [if_neg hn]
          exact r.sep j n hjn a ha
    · exact (r.pro t ht).keep [l] H H' (r.tmp t ht).1 kf fun a ha z => by
        rw [List.mem_singleton.mp z] at ha
        exact (r.tmp t ht).2 i l ho ha
    · rw [ow] at ha
      by_cases hj : j = i
      · rw [if_pos hj] at ha
        rw [List.mem_singleton.mp ha]
        exact (r.tmp t ht).2 i l ho
      · rw [if_neg hj] at ha
        exact (r.tmp t ht).2 j a ha
    · by_cases hj : j = i
      · simp only [if_pos hj] at ha
        rcases List.mem_cons.mp ha with z | z
        · subst z
          exact .inl (r.own i a ho).2
        · rcases w5 a z with q | q
          · exact .inl (r.frm.new q)
          · exact r.prv i a (by rw [hF]; exact List.mem_cons_of_mem _ q)
      · simp only [if_neg hj] at ha
        exact r.prv j a ha
    · have nb : b ≠ l := fun z => by
        subst z
        rw [(r.own i b ho).2] at e
        cases e
      rcases r.frm b o e with q | ⟨q1, ob, q2⟩
      · exact .inl (w9 b _ nb q)
      · exact .inr ⟨q1, ob, w9 b _ nb q2⟩
    · rw [kd_set hlt] at e
      by_cases hj : j = i
      · rw [if_pos hj] at e
        cases e
      · rw [if_neg hj] at e
        simp only [if_neg hj]
        exact r.lk j e
  have gF : ∀ a ∈ g, ∀ j, a ∉ (fun j => if j = i then l :: f1 else F j) j := fun a ha j z => by
    obtain ⟨q1, _, q2, q3⟩ := w8 a ha
    by_cases hj : j = i
    · simp only [if_pos hj] at z
      rcases List.mem_cons.mp z with z | z
      · exact q2 z
      · exact q3 z
    · simp only [if_neg hj] at z
      exact trk j a z q1
  refine ⟨_, g, r', w6, fun a ha => ⟨(w8 a ha).2.1, r.frm.new (w8 a ha).1⟩, fun _ => w7, (fun z => by cases z), gF, fun j a ha z => gF a z j (swK_sub a ha), fun t ht a ha z => (r.pro t ht).trk H (r.tmp t ht).1 a z (w8 a ha).1, fun a ha => .inl (r.frm.new (w8 a ha).1), (fun z => nomatch z)⟩
abbrev XFn := Sto → Res (Sto × Dat × Kd)
def OutX (X : Cx) (W : WX) (B : Fx) (σ : L2.St) (o : Res (Sto × Dat × Kd)) (Q : VK) : Prop := match o with
  | .ok p => ∀ v H' F' g, R (glo X) B p.1 σ H' F' → Hand (glo X) B p.1 F' H' p.2.1 p.2.2 v g → Q v H'
  | .exc c => ∀ C H', X.mg (mkS c) = some (.ref C) → Frm B H' → W (.ref C) none σ H'
  | .no => False
def tXv (X : Cx) (W : WX) (f : XFn) : TE := fun σ H Q => ∃ B E F, R (glo X) B E σ H F ∧ OutX X W B σ (f E) Q
structure Xv (X : Cx) (W : WX) (e : Expr) (f : XFn) : Prop where
  pe : PE X e (tXv X W f)
section
variable {X : Cx} {W : WX} {k : Nat}
theorem seqXA {f : Sto → Res (List Rs)} {B : Fx} {E : Sto} {F : Fp} {σ : L2.St} {H : Hp} {kk : List Rs → Res (Sto × Dat × Kd)} {Q : VK} {Q' : List V → Hp → Prop} (r : R (glo X) B E σ H F) (o : OutX X W B σ ((f E).bind kk) Q)
    (h : ∀ rs vs H1 fp, f E = .ok rs → Same H H1 → GvL (glo X) H F rs vs H1 fp → OutX X W B σ (kk rs) Q → Q' vs H1) : tEa X W f σ H Q' := by
  refine ⟨E, F, r.rep, ?_⟩
  cases e : f E with
  | no =>
    rw [e] at o
    exact o
  | exc c =>
    rw [e] at o
    exact fun C H' m s => o C H' m (r.frm.same s)
  | ok rs =>
    intro v H1 fp s1 g
    rw [e] at o
    exact h rs v H1 fp e s1 g o
def fMM (m : Tx) (i n : Nat) (c xt : Tx) (con : MCon) (fa : Sto → Res (List Rs)) : XFn := fun E => match slot E i with
  | some (.ins c' [x'] [d0], kk) => if c' = c ∧ x' = xt ∧ kk.w = true ∧ m ≠ xt then (fa E).bind fun rs => if rs.length + 1 = n then (match con d0 (rs.map (·.d)) with
      | .ok p => .ok (E.set i (some (.ins c [xt] [p.1], .root)), p.2, .deep)
      | .exc cl => .exc cl
      | .no => .no) else .no else .no
  | _ => .no
theorem xv_met (C : XOk k X) (tk : Takes X W) {o e : Expr} {es : List Expr} {m : Str} {mt c xt : Tx} {i n : Nat} {con : MCon} {apos pos : Pos} {pl : Sem Bool} {fa : Sto → Res (List Rs)} (M : MetM X.prog X.w X.K X.mg X.base k c xt m n con) (ho : PE X o (tVar i)) (ha : Ea X W (e :: es) fa) (hm : mkS mt = m := by rfl)
    (hst : starEach (e :: es) X.env = (false, eval e X.env) :: starEach es X.env := by rfl) (hpl : (backTo pos (starEach es X.env)).any (·.1) = false := by rfl)
    (ht : eval (.Call (.Attribute o m apos) (e :: es) [] pos) X.env = (do
      let ov ← eval o X.env
      standAt apos.atName
      let (f, first) ← holding [ov] (getMethod ov m pl)
      callWith pos f first (backTo pos (starEach (e :: es) X.env)) (backToKw pos (keywordEach [] X.env))) := by rfl) :
    Xv X W (.Call (.Attribute o m apos) (e :: es) [] pos) (fMM mt i n c xt con fa) := by
  obtain ⟨Ca, f, fd, ps, j, hC, cl, me, Fn, hb, hj⟩ := M
  refine ⟨⟨fun pins s σ H Q I ⟨B, E, F, r, ou⟩ => (pe_methS (pl := pl) ho cl me (Fn.mono hj) C.hr hb (fun σ => passAt tk σ) ha.pa hst hpl ht).run pins s σ H Q I ?_⟩⟩
  unfold fMM at ou
  cases es' : slot E i with
  | none =>
    rw [es'] at ou
    exact ou.elim
  | some q =>
    rw [es'] at ou
    obtain ⟨d, kk⟩ := q
    cases d <;> try exact ou.elim
    rename_i c' ks ds
    match ks, ds, es', ou with
    | [x'], [d0], es', ou =>
      simp only at ou
      by_cases hc : c' = c ∧ x' = xt ∧ kk.w = true ∧ mt ≠ xt
      · rw [if_pos hc] at ou
        obtain ⟨rfl, rfl, hw, hne⟩ := hc
        obtain ⟨l, C', dx, u0, f0, h1, h2, h3, h4, h5, h6⟩ := r.ins1 es' hw
        have h3 : X.mg (mkS c') = some (.ref C') := h3
        have eC : C' = Ca := by
          rw [hC] at h3
          injection h3 with h3
          injection h3 with h3
          exact h3.symm
        subst eC
        refine ⟨.ref l, h1, l, dx, _, rfl, h4, ?_, ?_⟩
        · rw [← hm]
          simp only [List.lookup]
          have hb : (mkS mt == mkS x') = false := beq_eq_false_iff_ne.mpr fun z => hne (mkS_inj z)
          rw [hb]
        · refine seqXA r ou fun rs vs H1 fp ea s1 g1 o1 => ?_
          have r1 := r.same s1
          by_cases hn : rs.length + 1 = n
          · rw [if_pos hn] at o1
            refine ⟨l, C', dx, u0, d0, f0, rs.map (·.d), vs, fp, rfl, hC, s1 _ _ h4, h5.same s1, g1.reps, by rw [g1.len]; exact hn, ?_⟩
            cases ec : con d0 (rs.map (·.d)) with
            | no =>
              rw [ec] at o1
              exact o1.elim
            | exc cl =>
              rw [ec] at o1
              exact fun C2 H' q s => o1 C2 H' q (r1.frm.same s)
            | ok p =>
              rw [ec] at o1
              intro v H' mp
              obtain ⟨F', g, q1, q2⟩ := r1.call es' h1 h2 (s1 _ _ h4) h6 mp
              exact o1 v H' F' g q1 q2
          · rw [if_neg hn] at o1
            exact o1.elim
      · rw [if_neg hc] at ou
        exact ou.elim
    | [], _, es', ou => exact ou.elim
    | _ :: _ :: _, _, es', ou => exact ou.elim
    | [_], [], es', ou => exact ou.elim
    | [_], _ :: _ :: _, es', ou => exact ou.elim
theorem seqXS {f : XFn} {B : Fx} {E : Sto} {F : Fp} {σ : L2.St} {H : Hp} {kk : Sto × Dat × Kd → Res Fl} {D : Ends} {Q' : VK} (r : R (glo X) B E σ H F) (o : OutS X W B D ((f E).bind kk))
    (h : ∀ p v H1 F1 g, R (glo X) B p.1 σ H1 F1 → Hand (glo X) B p.1 F1 H1 p.2.1 p.2.2 v g → OutS X W B D (kk p) → Q' v H1) : tXv X W f σ H Q' := by
  refine ⟨B, E, F, r, ?_⟩
  cases e : f E with
  | no =>
    rw [e] at o
    exact o
  | exc c =>
    rw [e] at o
    exact fun C H' m fr => o C σ H' m fr
  | ok p =>
    rw [e] at o
    exact fun v H' F' g r' h' => h p v H' F' g r' h' o
def sXSet (i : Nat) (f : XFn) : Sto → Res Fl := fun E => (f E).bind fun p => if i < p.1.length then .ok (.nx (p.1.set i (some p.2))) else .no
theorem xs_set {i : Nat} {x : Str} {e : Expr} {pos pos' : Pos} {f : XFn} (C : XOk k X) (he : Xv X W e f) (hi : X.N[i]? = some x := by rfl) (hx : Loc X.env.scope x := by first | exact Or.inl rfl | exact Or.inr rfl) (hs : swapsWith e (some (.Name x pos')) pos.line X.env = pure false := by rfl)
    (hf : X.fn x = true ∨ X.env.scope.names.lookup x = some .local := by first | exact .inl rfl | exact .inr rfl) : Es X W (.Assign [.Name x pos'] e pos) (sXSet i f) := by
  refine ⟨weakS (ps_set C.nd hi hx he.pe hs hf) fun D σ H ⟨B, E, F, r, o⟩ => seqXS r o fun p v H1 F1 g r1 h1 o1 => ?_⟩
  by_cases hl : i < p.1.length
  · rw [if_pos hl] at o1
    exact o1 _ H1 _ (r1.put h1 hl)
  · rw [if_neg hl] at o1
    exact o1.elim
/-- d.go(..) == e -/
def fXCmp (neg : Bool) (f : XFn) (g : Sto → Res Rs) : XFn := fun E => (f E).bind fun p => match g p.1 with
  | .ok r => (eqF p.2.1 r.d).bind fun b => .ok (p.1, .bl (if neg then !b else b), .deep)
  | _ => .no
theorem flat_hand {G : Glo} {B : Fx} {E : Sto} {F : Fp} {H : Hp} {b : Bool} : Hand G B E F H (.bl b) .deep (.bl b) [] :=
  ⟨mk_bl, (fun _ z => nomatch z), fun _ => .nil, (fun z => nomatch z), (fun _ z => nomatch z), (fun _ _ _ z => nomatch z), (fun _ _ _ z => nomatch z), (fun _ z => nomatch z), (fun z => nomatch z)⟩
end
end PV

namespace PV
open PySem PySem.Spec L2
theorem MetM.at {P : Program} {w : World} {K : PySem.W.Frag} {mg : Str → Option Value} {base : Heap} {j k n : Nat} {c xt : Tx} {m : Str} {con : MCon} (h : MetM P w K mg base j c xt m n con) (hj : j ≤ k := by decide) : MetM P w K mg base k c xt m n con := by
  obtain ⟨C, f, fd, ps, i, h1, h2, h3, h4, h5, h6⟩ := h
  exact ⟨C, f, fd, ps, i, h1, h2, h3, h4, h5, Nat.le_trans h6 hj⟩
section
variable {X : Cx} {W : WX} {k : Nat}
theorem pe_methS0 {CX : CXT} {C g : Addr} {fd : FuncData} {ps : List Str} {sp : Sp} {E : L2.St → XK} {m : Str} {o : Expr} {ta : TE} {apos pos : Pos} {pl : Sem Bool} (he : PE X o ta) (c : Cls X.K C) (hm : Meth X.K C m g) (F : FnOk X.prog X.w X.K X.mg X.base CX k g fd ps sp) (hr : Room k X.A) (hb : Binds X.K fd ps []) (hx : ∀ σ, PassesAt CX X σ (E σ))
    (ht : eval (.Call (.Attribute o m apos) [] [] pos) X.env = (do
      let ov ← eval o X.env
      standAt apos.atName
      let (f, first) ← holding [ov] (getMethod ov m pl)
      callWith pos f first (backTo pos (starEach [] X.env)) (backToKw pos (keywordEach [] X.env))) := by rfl) :
    PE X (.Call (.Attribute o m apos) [] [] pos) (tMethS C m sp E ta tNil) := by
  refine ⟨fun pins s σ H Q I h => ?_⟩
  refine PySem.W.methodCall_KW (pl := pl) (thn (he.run pins s σ H _ I h) fun u s1 ⟨x, H1, I1, rx, a, dx, fs, ex, ea, l, q⟩ => ?_) ht
  subst ex
  obtain rfl : u = Value.ref a := rx
  refine getmeth_ok I1 ea c hm l ?_
  exact PySem.W.callWith_K0 (first := [.ref a]) I1.kIn hm.kp (run_fnS (us := [.ref a]) (vs := [.ref a]) F hr hb (hx σ) I1 (.cons rfl .nil) q)
theorem ev_meth0 (C : XOk k X) (tk : Takes X W) {o : Expr} {m : Str} {mt : Tx} {cs : List (Tx × Con)} {apos pos : Pos} {pl : Sem Bool} {fo : Sto → Res Rs} (M : ∀ p ∈ cs, MetP X.prog X.w X.K X.mg X.base k p.1 m 1 p.2) (ho : Ev X W o fo) (hm : mkS mt = m := by rfl)
    (ht : eval (.Call (.Attribute o m apos) [] [] pos) X.env = (do
      let ov ← eval o X.env
      standAt apos.atName
      let (f, first) ← holding [ov] (getMethod ov m pl)
      callWith pos f first (backTo pos (starEach [] X.env)) (backToKw pos (keywordEach [] X.env))) := by rfl) :
    Ev X W (.Call (.Attribute o m apos) [] [] pos) (fMet mt 1 cs fo aNil) := by
  refine ⟨⟨fun pins s σ H Q I ⟨E, F, re, ou⟩ => ?_⟩⟩
  unfold fMet at ou
  cases eo : fo E with
  | no =>
    simp only [eo] at ou
    exact ou.elim
  | exc c =>
    simp only [eo] at ou
    exact ou.elim
  | ok r =>
    simp only [eo] at ou
    cases ed : r.d <;> simp only [ed] at ou <;> first | exact ou.elim | skip
    rename_i c ks ds
    by_cases hk : mt ∈ ks
    · rw [if_pos hk] at ou
      exact ou.elim
    · rw [if_neg hk] at ou
      cases el : lkC cs c with
      | none =>
        simp only [el] at ou
        exact ou.elim
      | some con =>
        simp only [el] at ou
        have M1 : MetP X.prog X.w X.K X.mg X.base k c m 1 con := M _ (lkC_mem el)
        obtain ⟨Ca, f, fd, ps, j, hC, cl, me, Fn, hb, hj⟩ := M1
        refine (pe_methS0 (pl := pl) ho.pe cl me (Fn.mono hj) C.hr hb (fun σ => passAt tk σ) ht).run pins s σ H Q I ?_
        refine ⟨E, F, re, ?_⟩
        rw [eo]
        intro v H1 fp s1 g
        have p := g.rep
        rw [ed] at p
        have p' := p
        simp only [Rep] at p
        obtain ⟨a, C', dx, vs, f', rfl, q1, q2, q3, q4, q5⟩ := p
        have eC : C' = Ca := by
          rw [hC] at q1
          injection q1 with q1
          injection q1 with q1
          exact q1.symm
        subst eC
        refine ⟨a, dx, _, rfl, q2, by rw [← hm]; exact fs_none hk, ?_⟩
        show spC (glo X) 1 con [V.ref a] H1 Q _
        have o2 : Out X W H H1 F σ (match con [.ins c ks ds] with
          | .ok (d, dp) => .ok (if flat d then rsF d else if dp then ⟨d, false, [], some []⟩ else ⟨d, false, r.src ++ allSrc [], none⟩)
          | .exc cl => .exc cl
          | .no => .no) Q := ou.mono s1
        refine ⟨[.ins c ks ds], fp, RepL.one p', rfl, ?_⟩
        cases ec : con [.ins c ks ds] with
        | no =>
          simp only [ec] at o2
          exact o2
        | exc cl =>
          simp only [ec] at o2
          exact o2
        | ok y =>
          obtain ⟨d, dp⟩ := y
          simp only [ec] at o2
          refine fun v H' f' s3 r3 h1 h2 => o2 v H' f' s3 (met_gv (fp := fp) s1 r3 h1 h2 fun b hb => ?_)
          rcases g.prv.src b hb with w | ⟨i, hi, w⟩
          · exact .inl w
          · exact .inr ⟨i, List.mem_append.mpr (.inl hi), w⟩
structure HandL (G : Glo) (B : Fx) (F : Fp) (H : Hp) (ds : List Dat) (vs : List V) (g : List Addr) : Prop where
  rep : RepL G H ds vs g
  fr : ∀ a ∈ g, B.H0 a = none
  sp : ∀ a ∈ g, ∀ j, a ∉ F j
abbrev XAFn := Sto → Res (Sto × List Dat)
def OutXA (X : Cx) (W : WX) (B : Fx) (σ : L2.St) (o : Res (Sto × List Dat)) (Q : List V → Hp → Prop) : Prop := match o with
  | .ok p => ∀ vs H' F' g, R (glo X) B p.1 σ H' F' → HandL (glo X) B F' H' p.2 vs g → Q vs H'
  | .exc c => ∀ C H', X.mg (mkS c) = some (.ref C) → Frm B H' → W (.ref C) none σ H'
  | .no => False
def tXa (X : Cx) (W : WX) (f : XAFn) : TA := fun σ H Q => ∃ B E F, R (glo X) B E σ H F ∧ OutXA X W B σ (f E) Q
structure Xa (X : Cx) (W : WX) (es : List Expr) (f : XAFn) : Prop where
  pa : PA X es (tXa X W f)
def xNil : XAFn := fun E => .ok (E, [])
theorem xa_nil : Xa X W [] xNil := ⟨weakA pa_nil fun σ H Q ⟨B, E, F, r, o⟩ => o [] H F [] r ⟨RepL.nil, (fun _ z => nomatch z), (fun _ z => nomatch z)⟩⟩
open Classical in
/-- with a value in hand -/
noncomputable def heldB (B : Fx) (H : Hp) (g : List Addr) (t : Hp → Prop) : Fx := ⟨fun b => if b ∈ g then H b else B.H0 b, B.Lk, (t, g) :: B.T, fun a => B.P a ∧ a ∉ g, B.L⟩
def xCons (f : XFn) (fs : XAFn) : XAFn := fun E => (f E).bind fun p => if p.2.2 = .deep then (fs p.1).bind fun q => .ok (q.1, p.2.1 :: q.2) else .no
theorem xa_cons {e : Expr} {es : List Expr} {f : XFn} {fs : XAFn} (he : Xv X W e f) (hr : Xa X W es fs) (hs : starEach (e :: es) X.env = (false, eval e X.env) :: starEach es X.env := by rfl) : Xa X W (e :: es) (xCons f fs) := by
  refine ⟨weakA (pa_cons he.pe hr.pa hs) fun σ H Q ⟨B, E, F, r, o⟩ => ?_⟩
  refine ⟨B, E, F, r, ?_⟩
  unfold xCons at o
  cases e1 : f E with
  | no =>
    rw [e1] at o
    exact o
  | exc c =>
    rw [e1] at o
    exact o
  | ok p =>
    rw [e1] at o
    intro v1 H1 F1 g1 r1 h1
    have o : OutXA X W B σ (if p.2.2 = .deep then (fs p.1).bind fun q => .ok (q.1, p.2.1 :: q.2) else .no) Q := o
    by_cases hk : p.2.2 = .deep
    · rw [if_pos hk] at o
      rw [hk] at h1
      have trk1 : ∀ a ∈ g1, H1 a ≠ none := Rep.trk _ _ _ h1.rep
      have b0 : ∀ a ∈ g1, B.H0 a = none := fun a ha => (h1.own a ha).2
      have ng : ∀ a, (heldB B H1 g1 fun H => Rep (glo X) H p.2.1 v1 g1).H0 a = none → a ∉ g1 ∧ B.H0 a = none := fun a ha => by
        unfold heldB at ha
        simp only at ha
        by_cases q : a ∈ g1
        · rw [if_pos q] at ha
          exact absurd ha (trk1 a q)
        · rw [if_neg q] at ha
          exact ⟨q, ha⟩
      have yg : ∀ a, a ∉ g1 → (heldB B H1 g1 fun H => Rep (glo X) H p.2.1 v1 g1).H0 a = B.H0 a := fun a q => by
        unfold heldB
        simp only [if_neg q]
      have pr : Prot ((fun H => Rep (glo X) H p.2.1 v1 g1), g1) := ⟨fun W' H H' q kf n => Rep.kp kf.kp _ _ _ q n, fun H q a ha => Rep.trk _ _ _ q a ha, fun H H' d od kvs q1 q2 q3 q4 => Rep.kp (Kp.unl q4) _ _ _ q3 (fun _ _ => by simp)⟩
      have rB : R (glo X) (heldB B H1 g1 fun H => Rep (glo X) H p.2.1 v1 g1) p.1 σ H1 F1 := by
        refine ⟨r1.rep, fun i a ha => ⟨(r1.own i a ha).1, ?_⟩, r1.nod, r1.rot, r1.sep, fun t ht => ?_, fun t ht => ?_, fun i a ha => ?_, fun b ob hb => ?_, r1.lk⟩
        · rw [yg a fun z => h1.sp1 a z i (owK_sub a ha)]
          exact (r1.own i a ha).2
        · rcases List.mem_cons.mp ht with z | z
          · rw [z]
            exact pr
          · exact r1.pro t z
        · rcases List.mem_cons.mp ht with z | z
          · rw [z]
            exact ⟨h1.rep, fun i a ha z => h1.sp1 a z i (owK_sub a ha)⟩
          · exact r1.tmp t z
        · have na : a ∉ g1 := fun z => h1.sp1 a z i ha
          rw [yg a na]
          exact (r1.prv i a ha).imp id fun z => ⟨z, na⟩
        · by_cases q : b ∈ g1
          · unfold heldB at hb
            simp only [if_pos q] at hb
            exact .inl hb
          · rw [yg b q] at hb
            exact r1.frm b ob hb
      have fb : ∀ H', Frm (heldB B H1 g1 fun H => Rep (glo X) H p.2.1 v1 g1) H' → Frm B H' := fun H' fr b ob hb => fr b ob (by
        rw [yg b fun z => by rw [b0 b z] at hb; cases hb]
        exact hb)
      refine ⟨_, p.1, F1, rB, ?_⟩
      cases e2 : fs p.1 with
      | no =>
        rw [e2] at o
        exact o
      | exc c =>
        rw [e2] at o
        exact fun C H' m fr => o C H' m (fb H' fr)
      | ok q =>
        rw [e2] at o
        intro vs H2 F2 g2 r2 h2
        have o : ∀ vs H' F' g, R (glo X) B q.1 σ H' F' → HandL (glo X) B F' H' (p.2.1 :: q.2) vs g → Q vs H' := o
        have nF : ∀ a ∈ g1, ∀ j, a ∉ F2 j := fun a ha j z => by
          rcases r2.prv j a z with w | w
          · exact (ng a w).1 ha
          · exact w.2 ha
        refine o (v1 :: vs) H2 F2 (g1 ++ g2) ?_ ⟨RepL.cons (r2.tmp _ List.mem_cons_self).1 h2.rep, fun a ha => ?_, fun a ha => ?_⟩
        · refine ⟨r2.rep, fun i a ha => ⟨(r2.own i a ha).1, (ng a (r2.own i a ha).2).2⟩, r2.nod, r2.rot, r2.sep, fun t ht => r2.pro t (List.mem_cons_of_mem _ ht), fun t ht => r2.tmp t (List.mem_cons_of_mem _ ht), fun i a ha => ?_, fb H2 r2.frm, r2.lk⟩
          rcases r2.prv i a ha with w | w
          · exact .inl (ng a w).2
          · exact .inr w.1
        · rcases List.mem_append.mp ha with z | z
          · exact b0 a z
          · exact (ng a (h2.fr a z)).2
        · rcases List.mem_append.mp ha with z | z
          · exact nF a z
          · exact h2.sp a z
    · rw [if_neg hk] at o
      exact o.elim
end
end PV

namespace PV
open PySem PySem.Spec L2
section
variable {X : Cx} {W : WX} {k : Nat}
/-- a new list of such values -/
theorem HandL.lst {G : Glo} {B : Fx} {E : Sto} {σ : L2.St} {F : Fp} {H H2 : Hp} {ds : List Dat} {vs : List V} {g : List Addr} {p : Addr} (r : R G B E σ H F) (h : HandL G B F H ds vs g) (hp : H p = none) (s : Same H H2) (e : H2 p = some (.lst vs)) : Hand G B E F H2 (.lst ds) .root (.ref p) (p :: g) := by
  have nF : ∀ j, p ∉ F j := fun j z => r.rep.trk j p z hp
  have ng : p ∉ g := fun z => RepL.trk _ _ _ h.rep p z hp
  refine ⟨?_, fun a ha => ?_, (fun z => by cases z), fun _ => ⟨p, g, rfl, ng⟩, fun a ha j => ?_, fun j a ha z => ?_, fun t ht a ha z => ?_, fun a ha => ?_, (fun z => nomatch z)⟩
  · simp only [Rep]
    exact ⟨p, vs, g, rfl, e, h.rep.same s, rfl⟩
  · have ha : a = p := by simpa [owK] using ha
    rw [ha]
    exact ⟨⟨_, e, rfl⟩, r.frm.new hp⟩
  · have ha : a = p := by simpa [owK] using ha
    rw [ha]
    exact nF j
  · rcases List.mem_cons.mp z with z | z
    · rw [z] at ha
      exact nF j (swK_sub p ha)
    · exact h.sp a z j (swK_sub a ha)
  · have ha : a = p := by simpa [owK] using ha
    rw [ha] at z
    exact (r.pro t ht).trk H (r.tmp t ht).1 p z hp
  · rcases List.mem_cons.mp ha with z | z
    · rw [z]
      exact .inl (r.frm.new hp)
    · exact .inl (h.fr a z)
def fXLst (f : XAFn) : XFn := fun E => (f E).bind fun p => if p.2.length ≤ 1000000 then .ok (p.1, .lst p.2, .root) else .no
theorem xv_lst {es : List Expr} {f : XAFn} {pos : Pos} (h : Xa X W es f) : Xv X W (.List es pos) (fXLst f) := by
  refine ⟨weakE (pe_lst h.pa) fun σ H Q ⟨B, E, F, r, o⟩ => ?_⟩
  refine ⟨B, E, F, r, ?_⟩
  unfold fXLst at o
  cases e : f E with
  | no =>
    rw [e] at o
    exact o
  | exc c =>
    rw [e] at o
    exact o
  | ok p =>
    rw [e] at o
    intro vs H1 F1 g r1 h1
    have o : OutX X W B σ (if p.2.length ≤ 1000000 then .ok (p.1, .lst p.2, .root) else .no) Q := o
    by_cases hl : p.2.length ≤ 1000000
    · rw [if_pos hl] at o
      refine ⟨sizeLine_le (by rw [h1.rep.len]; exact hl), fun q hq => ?_⟩
      exact o _ _ F1 (q :: g) (r1.same (same_new hq)) (h1.lst r1 hq (same_new hq) upd_same)
    · rw [if_neg hl] at o
      exact o.elim
/-- x = x + [..] -/
def sXCat (j : Nat) (f : XAFn) : Sto → Res Fl := fun E => match slot E j with
  | some _ => (f E).bind fun p => match slot p.1 j with
    | some (.lst xs, _) => if xs.length + p.2.length ≤ 1000000 then .ok (.nx ((wipeE p.1 [j]).set j (some (.lst (xs ++ p.2), .root)))) else .no
    | _ => .no
  | none => .no
theorem xs_cat {j : Nat} {x : Str} {es : List Expr} {f : XAFn} {p1 p2 p3 pos pos' : Pos} (C : XOk k X) (ha : Xa X W es f) (hi : X.N[j]? = some x := by rfl) (hx : Loc X.env.scope x := by first | exact Or.inl rfl | exact Or.inr rfl) (hv : PE X (.Name x p1) (tVar j)) (hs : swapsWith (.BinOp (.Name x p1) .Add (.List es p2) p3) (some (.Name x pos')) pos.line X.env = pure false := by rfl)
    (hf : X.fn x = true ∨ X.env.scope.names.lookup x = some .local := by first | exact .inl rfl | exact .inr rfl) : Es X W (.Assign [.Name x pos'] (.BinOp (.Name x p1) .Add (.List es p2) p3) pos) (sXCat j f) := by
  refine ⟨weakS (ps_set C.nd hi hx (pe_op op_addA hv (pe_lst ha.pa)) hs hf) fun D σ H ⟨B, E, F, r, o⟩ => ?_⟩
  unfold sXCat at o
  cases es' : slot E j with
  | none =>
    rw [es'] at o
    exact o.elim
  | some q =>
    rw [es'] at o
    obtain ⟨v, hv1, _⟩ := r.rep.rep j q.1 q.2 es'
    refine ⟨v, hv1, B, E, F, r, ?_⟩
    cases e : f E with
    | no =>
      rw [e] at o
      exact o
    | exc c =>
      rw [e] at o
      exact fun C H' m fr => o C σ H' m fr
    | ok p =>
      rw [e] at o
      intro vs H1 F1 g r1 h1
      have o : OutS X W B D (match slot p.1 j with
        | some (.lst xs, _) => if xs.length + p.2.length ≤ 1000000 then .ok (.nx ((wipeE p.1 [j]).set j (some (.lst (xs ++ p.2), .root)))) else .no
        | _ => .no) := o
      cases ej : slot p.1 j with
      | none =>
        rw [ej] at o
        exact o.elim
      | some q2 =>
        obtain ⟨d, kd⟩ := q2
        rw [ej] at o
        cases d <;> try exact o.elim
        rename_i xs
        simp only at o
        by_cases hl : xs.length + p.2.length ≤ 1000000
        · rw [if_pos hl] at o
          obtain ⟨v', w1, w2⟩ := r1.rep.rep j _ _ ej
          rw [hv1] at w1
          injection w1 with w1
          injection w1 with w1
          subst w1
          simp only [Rep] at w2
          obtain ⟨a, us, fx, ev, w3, w4, w5⟩ := w2
          subst ev
          have hjl : j < p.1.length := slot_lt ej
          refine ⟨sizeLine_le (by rw [h1.rep.len]; omega), fun q hq => .inr ⟨a, q, us, vs, rfl, rfl, same_new hq _ _ w3, upd_same, sizeLine_le (by rw [h1.rep.len, w4.len]; exact hl), fun q2 hq2 => ?_⟩⟩
          have s2 : Same H1 (upd (upd H1 q (.lst vs)) q2 (.lst (us ++ vs))) := (same_new hq).trans (same_new hq2)
          have hn : H1 q2 = none := (same_new hq).free hq2
          have rk := (r1.same s2).kill [j]
          have ngx : q2 ∉ fx ++ g := fun z => by
            rcases List.mem_append.mp z with z | z
            · exact RepL.trk _ _ _ w4 q2 z hn
            · exact RepL.trk _ _ _ h1.rep q2 z hn
          have nF : ∀ i, q2 ∉ F1 i := fun i z => r1.rep.trk i q2 z hn
          have hand : Hand (glo X) B (wipeE p.1 [j]) (fun i => if i ∈ [j] then [] else F1 i) (upd (upd H1 q (.lst vs)) q2 (.lst (us ++ vs))) (.lst (xs ++ p.2)) .root (.ref q2) (q2 :: (fx ++ g)) := by
            refine ⟨?_, fun b hb => ?_, (fun z => by cases z), fun _ => ⟨q2, _, rfl, ngx⟩, fun b hb i z => ?_, fun i b hb z => ?_, fun t ht b hb z => ?_, fun b hb => ?_, (fun z => nomatch z)⟩
            · simp only [Rep]
              exact ⟨q2, us ++ vs, fx ++ g, rfl, upd_same, (w4.same s2).app (h1.rep.same s2), rfl⟩
            · have hb : b = q2 := by simpa [owK] using hb
              rw [hb]
              exact ⟨⟨_, upd_same, rfl⟩, r1.frm.new hn⟩
            · have hb : b = q2 := by simpa [owK] using hb
              rw [hb] at z
              by_cases hi : i ∈ [j]
              · simp [hi] at z
              · simp only [hi, if_false] at z
                exact nF i z
            · unfold Sw at hb
              rw [kd_wipe] at hb
              by_cases hi : i ∈ [j]
              · simp [hi, swK] at hb
              · simp only [hi, if_false] at hb
                have hi : i ≠ j := fun z => hi (by simp [z])
                rcases List.mem_cons.mp z with z | z
                · rw [z] at hb
                  exact nF i (swK_sub q2 hb)
                · rcases List.mem_append.mp z with z | z
                  · exact r1.sep i j hi b hb (by rw [w5]; exact List.mem_cons_of_mem _ z)
                  · exact h1.sp b z i (swK_sub b hb)
            · have hb : b = q2 := by simpa [owK] using hb
              rw [hb] at z
              exact (r1.pro t ht).trk H1 (r1.tmp t ht).1 q2 z hn
            · rcases List.mem_cons.mp hb with z | z
              · rw [z]
                exact .inl (r1.frm.new hn)
              · rcases List.mem_append.mp z with z | z
                · exact r1.prv j b (by rw [w5]; exact List.mem_cons_of_mem _ z)
                · exact .inl (h1.fr b z)
          exact o _ _ _ (rk.put hand (by
            show j < (p.1.set j none).length
            rw [List.length_set]
            exact hjl))
        · rw [if_neg hl] at o
          exact o.elim
abbrev XTFn := Sto → Res (Sto × Bool)
def OutXB (X : Cx) (W : WX) (B : Fx) (σ : L2.St) (o : Res (Sto × Bool)) (Q : Bool → Hp → Prop) : Prop := match o with
  | .ok p => ∀ H' F', R (glo X) B p.1 σ H' F' → Q p.2 H'
  | .exc c => ∀ C H', X.mg (mkS c) = some (.ref C) → Frm B H' → W (.ref C) none σ H'
  | .no => False
/-- a test that writes: what holds behind it is told of the slots, too -/
def tXt (X : Cx) (W : WX) (f : XTFn) : TT := fun σ H Q => ∃ B E F, R (glo X) B E σ H F ∧ OutXB X W B σ (f E) Q
structure Xt (X : Cx) (W : WX) (e : Expr) (f : XTFn) : Prop where
  pt : PT X e (tXt X W f)
structure Xw (X : Cx) (W : WX) (e : Expr) (f : XTFn) : Prop where
  pw : PW X e (tXt X W f)
def tXOf (f : XFn) : XTFn := fun E => (f E).bind fun p => match p.2.1 with
  | .bl b => .ok (p.1, b)
  | _ => .no
def tXE (t : Sto → Res Bool) : XTFn := fun E => (t E).bind fun b => .ok (E, b)
theorem xt_et {e : Expr} {t : Sto → Res Bool} (h : Et X W e t) : Xt X W e (tXE t) := by
  refine ⟨weakT h.pt fun σ H Q ⟨B, E, F, r, o⟩ => ⟨E, F, r.rep, ?_⟩⟩
  unfold tXE at o
  cases e : t E with
  | no =>
    rw [e] at o
    exact o
  | exc c =>
    rw [e] at o
    exact fun C H' m s => o C H' m (r.frm.same s)
  | ok b =>
    rw [e] at o
    exact fun H1 s => o H1 F (r.same s)
theorem xw_or1 {a : Expr} {f : XTFn} {pos : Pos} (h : Xt X W a f) : Xw X W (.BoolOp .Or [a] pos) f := ⟨pw_or1 h.pt⟩
def tXOr (f g : XTFn) : XTFn := fun E => (f E).bind fun p => if p.2 then .ok p else g p.1
theorem xw_or {a b : Expr} {rest : List Expr} {f g : XTFn} {pos : Pos} (ha : Xt X W a f) (hb : Xw X W (.BoolOp .Or (b :: rest) pos) g) : Xw X W (.BoolOp .Or (a :: b :: rest) pos) (tXOr f g) := by
  refine ⟨⟨fun wh pins s σ H Q I ⟨B, E, F, r, o⟩ => (pw_or ha.pt hb.pw).run wh pins s σ H Q I ?_⟩⟩
  refine ⟨B, E, F, r, ?_⟩
  unfold tXOr at o
  cases e : f E with
  | no =>
    rw [e] at o
    exact o
  | exc c =>
    rw [e] at o
    exact o
  | ok p =>
    rw [e] at o
    intro H1 F1 r1
    have o : OutXB X W B σ (if p.2 then .ok p else g p.1) Q := o
    cases hb : p.2 with
    | true =>
      rw [hb] at o
      rw [if_pos rfl]
      have o : OutXB X W B σ (.ok p) Q := o
      have := o H1 F1 r1
      rw [hb] at this
      exact this
    | false =>
      rw [hb] at o
      rw [if_neg Bool.false_ne_true]
      exact ⟨B, p.1, F1, r1, o⟩
def sXIf (t : XTFn) (g h : Sto → Res Fl) : Sto → Res Fl := fun E => (t E).bind fun p => if p.2 then g p.1 else h p.1
theorem xs_if {c : Expr} {a b : List Stmt} {pos : Pos} {t : XTFn} {g h : Sto → Res Fl} (hc : Xt X W c t) (ha : Ess X W a g) (hb : Ess X W b h) : Es X W (.If c a b pos) (sXIf t g h) := by
  refine ⟨weakS (ps_if hc.pt ha.pss hb.pss) fun D σ H ⟨B, E, F, r, o⟩ => ⟨B, E, F, r, ?_⟩⟩
  unfold sXIf at o
  cases e : t E with
  | no =>
    rw [e] at o
    exact o
  | exc c =>
    rw [e] at o
    exact fun C H' m fr => o C σ H' m fr
  | ok p =>
    rw [e] at o
    intro H1 F1 r1
    have o : OutS X W B D (if p.2 then g p.1 else h p.1) := o
    cases hb : p.2 with
    | true =>
      rw [hb] at o
      rw [if_pos rfl]
      exact ⟨B, p.1, F1, r1, o⟩
    | false =>
      rw [hb] at o
      rw [if_neg Bool.false_ne_true]
      exact ⟨B, p.1, F1, r1, o⟩
def sTryN (ig : Nat) (tab : List (Tx × Bool)) (f : Sto → Res Rs) : Sto → Res Fl := fun E => match f E with
  | .ok _ => .ok (.rt (.bl false) true)
  | .exc c => match tab.lookup c with
    | some _ => if ig < E.length then .ok (.nx (E.set ig (some (.non, .deep)))) else .no
    | none => .no
  | .no => .no
theorem es_tryN (hst : X.stack = X.env :: X.outer) (hfr : X.env.frame = some X.env.locals) (tk : Takes X W) {ig : Nat} {th c2 gn : Str} {tab : List (Tx × Bool)} {e : Expr} {f : Sto → Res Rs} {pe0 pr np pg pa pc pos' pos : Pos} {j j2 : Nat} {pc2 : Pos}
    (C : XOk k X) (hT : ∀ c b, tab.lookup c = some b → CatK X.K X.mg th c2 c b) (hsome : ∃ T, X.mg th = some (.ref T))
    (hb : ∀ (W' : WX) (pn : List (Addr × Obj)) (xe : Value → Shared → Prop), Takes (X.tr pn xe) W' → XOk k (X.tr pn xe) → Ev (X.tr pn xe) W' e f)
    (hNg : X.N[ig]? = some gn := by rfl) (hlg : Loc X.env.scope gn := by first | exact Or.inl rfl | exact Or.inr rfl) (hfn : X.fn gn = true ∨ X.env.scope.names.lookup gn = some .local := by first | exact .inl rfl | exact .inr rfl)
    (hgt : Gl X th := by rfl) (hd : (th == ("__debug__" : Str)) = false := by decide)
    (hsw : ∀ pn xe, swapsWith e none pe0.line (X.tr pn xe).env = pure false := by intro _ _; rfl) :
    Es X W (.Try [.Expr e pe0, .Return (some (.Constant (.bool false) j pc)) pr] [.ExceptHandler (some (.Name th np)) none [.Assign [.Name gn pg] (.Constant .none j2 pc2) pa] pos'] [] [] pos) (sTryN ig tab f) := by
  obtain ⟨T, hT1⟩ := hsome
  refine ⟨weakS (ps_try_only (Wout := W) (c := .ref T) (tb := fun W' => tSeq (tDrop (tEv X W' f)) (tRet (tC (.bl false)))) (ts := fun _ _ _ => tSeq (tAsg (tC .non) (gName ig)) tNext) hst hfr ⟨hgt, hd, .inl hT1⟩ tk (fun W' pn xe tk' po' => pss_cons (ps_expr (hb W' pn xe tk' ⟨C.calm, C.nd, C.hr⟩).pe (hsw pn xe)) (pss_one (ps_ret pe_bl))) (fun a oe cls d pn hz hf => ?_)) fun D σ H ⟨B, E, F, r, o⟩ => ?_⟩
  · exact pss_cons (ps_asg pe_non (pg_name C.nd hNg hlg hfn)) pss_nil
  · refine ⟨E, F, r.rep, ?_⟩
    unfold sTryN at o
    cases e : f E with
    | no =>
      rw [e] at o
      exact o.elim
    | ok rs =>
      rw [e] at o
      exact fun v H1 fp s g => o (.bl false) H1 ⟨[], mk_bl, fun _ => ⟨.nil, (fun _ z => nomatch z)⟩, (fun _ z => nomatch z), (r.same s).frm, fun t ht => ((r.same s).tmp t ht).1⟩
    | exc c =>
      rw [e] at o
      simp only at o
      intro D0 H' hm s
      cases hl : tab.lookup c with
      | none =>
        rw [hl] at o
        exact o.elim
      | some b =>
        rw [hl] at o
        simp only at o
        by_cases hig : ig < E.length
        · rw [if_pos hig] at o
          obtain ⟨T', C2', D', m1, m2, m3, x1, x2, x3⟩ := (hT c b hl).ex
          rw [hT1] at m1
          rw [hm] at m3
          injection m1 with m1
          injection m1 with m1
          injection m3 with m3
          injection m3 with m3
          subst m1 m3
          refine ⟨true, x1, fun _ a na => ?_, fun z => nomatch z⟩
          obtain ⟨F1, r3, h3⟩ := (r.same s).take false (Same.refl H') (Gv.flat mk_non)
          have ht : PV.take false (rsF .non) E = (E, .deep) := by
            unfold PV.take
            simp only [rsF]
            rfl
          rw [ht] at r3 h3
          exact o _ _ _ (r3.put h3 hig)
        · rw [if_neg hig] at o
          exact o.elim
theorem Xw.xt {e : Expr} {f : XTFn} (h : Xw X W e f) : Xt X W e f := ⟨h.pw.pt⟩
end
end PV

namespace PV
open PySem PySem.Spec L2
section
variable {X : Cx} {W : WX} {k : Nat}
theorem xof_test {F : XFn} {σ : L2.St} {H : Hp} {Q : Bool → Hp → Prop} (h : tXt X W (tXOf F) σ H Q) : tXv X W F σ H (fun v H' => ∃ b, v = .bl b ∧ Q b H') := by
  obtain ⟨B, E, Fp, r, o⟩ := h
  refine ⟨B, E, Fp, r, ?_⟩
  unfold tXOf at o
  cases e : F E with
  | no =>
    rw [e] at o
    exact o
  | exc c =>
    rw [e] at o
    exact o
  | ok p =>
    rw [e] at o
    intro v H1 F1 g r1 h1
    have o : OutXB X W B σ (match p.2.1 with | .bl b => .ok (p.1, b) | _ => .no) Q := o
    have hr := h1.rep
    cases ed : p.2.1 with
    | bl b =>
      rw [ed] at o hr
      exact ⟨b, rep_bl hr, o H1 F1 r1⟩
    | _ =>
      rw [ed] at o
      exact o.elim
theorem xcmp_op {neg : Bool} {f : XFn} {g : Sto → Res Rs} {σ : L2.St} {H : Hp} {Q : VK} (h : tXv X W (fXCmp neg f g) σ H Q) : tOp (rEqP X neg) (tXv X W f) (tEv X W g) σ H Q := by
  obtain ⟨B, E, F, r, o⟩ := h
  refine ⟨B, E, F, r, ?_⟩
  unfold fXCmp at o
  cases e : f E with
  | no =>
    rw [e] at o
    exact o
  | exc c =>
    rw [e] at o
    exact o
  | ok p =>
    rw [e] at o
    intro v H1 F1 fp r1 h1
    have o : OutX X W B σ (match g p.1 with
      | .ok r => (eqF p.2.1 r.d).bind fun b => .ok (p.1, .bl (if neg then !b else b), .deep)
      | _ => .no) Q := o
    refine ⟨p.1, F1, r1.rep, ?_⟩
    cases eg : g p.1 with
    | no =>
      rw [eg] at o
      exact o
    | exc c =>
      rw [eg] at o
      exact o.elim
    | ok rb =>
      rw [eg] at o
      intro y H2 fb s2 g2
      simp only at o
      cases eq : eqF p.2.1 rb.d with
      | no =>
        rw [eq] at o
        exact o.elim
      | exc c =>
        exfalso
        exact ops_eq.eqF_exc eq
      | ok t =>
        rw [eq] at o
        exact ⟨_, _, _, _, t, h1.rep.same s2, g2.rep, eq, o _ H2 F1 [] (r1.same s2) flat_hand⟩
theorem xt_ne (C : XOk k X) {a b : Expr} {pos : Pos} {f : XFn} {g : Sto → Res Rs} (ha : Xv X W a f) (hb : Ev X W b g) : Xt X W (.Compare a [.NotEq] [b] pos) (tXOf (fXCmp true f g)) :=
  ⟨weakT (pt_cmpR (op_neP C) ha.pe hb.pe (nomark _)) fun σ H Q h => xcmp_op (xof_test h)⟩
end
end PV

namespace PV
open PySem PySem.Spec L2
section
variable {X : Cx} {W : WX} {k : Nat}
end
end PV

namespace PV
open PySem PySem.Spec PyProof.Rows L2 L2H HotX
section
variable {X : Cx} {pins : List (Addr × Obj)} {σ : L2.St} {H : Hp} {s : Shared}
end
end PV

namespace PV
open PySem PySem.Spec PyProof.Rows L2 L2H HotX
/-- what a def promises there: it may be handed the exception that is handled -/
structure FnE (P : Program) (w : World) (K : PySem.W.Frag) (mg : Str → Option Value) (base : Heap) (CX : CXT) (k : Nat) (f : Addr) (fd : FuncData) (ps : List Str) (sp : Addr × Obj → Sp) : Prop where
  len : ∀ p vs H Q E, sp p vs H Q E → vs.length = ps.length
  run : ∀ (A : Around) (outer : List Env) (s : Shared) (H : Hp) (args : Args) (us : List Value) (vs : List V) (Q : VK) (E : XK) (p : Addr × Obj), RoomH k A → Hot1 A p → PinOk outer H s p → Env0 P w K mg base A outer s H → BindsTo s fd args (ps.zip us) → Vals vs us → sp p vs H Q E →
    codeAny (model P w) A (.call (.ref f) args) (CR CX outer P w H s Q E) s
section
variable {X : Cx} {CX : CXT} {k : Nat} {f : Addr} {fd : FuncData} {ps : List Str} {sp : Addr × Obj → Sp} {E : L2.St → XK} {x : Str} {q pos : Pos} {e : Expr} {es : List Expr} {t : TA}
end
end PV

namespace PV
open PySem PySem.Spec L2
def y_is_title_1 : Sto → Res Rs := fOr (fBin (gIn false) (fVar 1) (fC (.str [97, 98, 99, 100, 101, 102, 103, 104, 105, 106, 107, 108, 109, 110, 111, 112, 113, 114, 115, 116, 117, 118, 119, 120, 121, 122]))) (fBin (gIn false) (fVar 1) (fTup (aCons (fC (.str [32])) (aCons (fC (.str [58])) aNil))))
/-- is_title(thing); slots thing, sign -/
def g_is_title : Sto → Res Fl := sSeq (sIf (tOr' (tNot' (tOf (fOne (gIsi (isT "str") noOwn) (fVar 0)))) (tOf (fBin gGt (fOne gLen (fVar 0)) (fC (.int 12))))) (sRet (fC (.bl false))) sNil) (sRet (fOne gAll (fComp (.one 1) [1] (iOf (fVar 0)) tTrue y_is_title_1)))
def c_is_title : Con := runF 2 1 g_is_title
def q_bare_of_1 : Sto → Res Bool := tOf (fBin gNe (fVar 2) (fC (.str [])))
def y_bare_of_1 : Sto → Res Rs := fVar 2
def t_bare_of_1 : Sto → Res Bool := tOf (fM1 gStartsW (fVar 1) (fC (.str [114, 101, 58])))
def b_bare_of_1 : Sto → Res Fl := sSet false 1 (fM1 gStrip (fSl (fVar 1) (oSome (fC (.int 3))) oNone) (fC (.str [32])))
/-- bare_of(title); slots title, found, word -/
def g_bare_of : Sto → Res Fl := sSeq (sSet false 1 (fM1 gJoin (fC (.str [32])) (fComp (.one 2) [2] (iOf (fM1 gSplit (fVar 0) (fC (.str [32])))) q_bare_of_1 y_bare_of_1))) (sSeq (whileGo t_bare_of_1 b_bare_of_1 1000) (sRet (fVar 1)))
def c_bare_of : Con := runF 3 1 g_bare_of
/-- bare(title); slots title -/
def g_bare : Sto → Res Fl := sSeq (sIf (tNot' (tOf (fCall 1 c_is_title (aCons (fVar 0) aNil)))) (sRaise [66, 97, 100, 84, 105, 116, 108, 101]) sNil) (sRet (fCall 1 c_bare_of (aCons (fVar 0) aNil)))
def c_bare : Con := runF 1 1 g_bare
def y_is_name_1 : Sto → Res Rs := fBin (gIn false) (fVar 1) (fC (.str [97, 98, 99, 100, 101, 102, 103, 104, 105, 106, 107, 108, 109, 110, 111, 112, 113, 114, 115, 116, 117, 118, 119, 120, 121, 122]))
/-- is_name(thing); slots thing, sign -/
def g_is_name : Sto → Res Fl := sRet (fAnd (fOne (gIsi (isT "str") noOwn) (fVar 0)) (fAnd (fChain gLe gLe (fC (.int 1)) (fOne gLen (fVar 0)) (fC (.int 3))) (fOne gAll (fComp (.one 1) [1] (iOf (fVar 0)) tTrue y_is_name_1))))
def c_is_name : Con := runF 2 1 g_is_name
def y_is_letter_1 : Sto → Res Rs := fCall 1 c_is_name (aCons (fVar 2) aNil)
/-- is_letter(thing); slots thing, answers, name -/
def g_is_letter : Sto → Res Fl := sSeq (sIf (tOr' (tNot' (tOf (fOne (gIsi (isT "tuple") noOwn) (fVar 0)))) (tOr' (tOf (fBin gNe (fOne gLen (fVar 0)) (fC (.int 3)))) (tOr' (tNot' (tOf (fCall 1 c_is_name (aCons (fBin gSubs (fVar 0) (fC (.int 0))) aNil)))) (tNot' (tOf (fCall 1 c_is_title (aCons (fBin gSubs (fVar 0) (fC (.int 2))) aNil))))))) (sRet (fC (.bl false))) sNil) (sSeq (sSet false 1 (fBin gSubs (fVar 0) (fC (.int 1)))) (sSeq (sIf (tOr' (tNot' (tOf (fOne (gIsi (isT "list") noOwn) (fVar 1)))) (tOr' (tOf (fBin gGt (fOne gLen (fVar 1)) (fC (.int 4)))) (tNot' (tOf (fOne gAll (fComp (.one 2) [2] (iOf (fVar 1)) tTrue y_is_letter_1)))))) (sRet (fC (.bl false))) sNil) (sRet (fAnd (fBin gEq (fOne gLenSet (fVar 1)) (fOne gLen (fVar 1))) (fBin (gIn true) (fBin gSubs (fVar 0) (fC (.int 0))) (fVar 1))))))
def c_is_letter : Con := runF 3 1 g_is_letter
def y_check_letters_1 : Sto → Res Rs := fCall 1 c_is_letter (aCons (fVar 1) aNil)
def y_check_letters_2 : Sto → Res Rs := fBin gSubs (fVar 1) (fC (.int 0))
/-- check_letters(letters); slots letters, letter -/
def g_check_letters : Sto → Res Fl := sSeq (sIf (tOr' (tNot' (tOf (fOne (gIsi (isT "list") noOwn) (fVar 0)))) (tOr' (tOf (fBin gGt (fOne gLen (fVar 0)) (fC (.int 9)))) (tNot' (tOf (fOne gAll (fComp (.one 1) [1] (iOf (fVar 0)) tTrue y_check_letters_1)))))) (sRaise [66, 97, 100, 76, 101, 116, 116, 101, 114, 115]) sNil) (sIf (tOf (fBin gLt (fOne gLenSet (fComp (.one 1) [1] (iOf (fVar 0)) tTrue y_check_letters_2)) (fOne gLen (fVar 0)))) (sRaise [66, 97, 100, 76, 101, 116, 116, 101, 114, 115]) sNil)
def c_check_letters : Con := runF 2 1 g_check_letters
def b_names_of_1 : Sto → Res Fl := sExt 1 (fBin gAdd (fLst (aCons (fVar 2) aNil)) (fVar 3))
/-- names_of(letters); slots letters, found, name, answers, title -/
def g_names_of : Sto → Res Fl := sSeq (sSet false 1 (fLst aNil)) (sSeq (sFor (.many [2, 3, 4]) (iOf (fVar 0)) b_names_of_1) (sRet (fOne gSortSet (fVar 1))))
def c_names_of : Con := runF 5 1 g_names_of
def b_told_parent_1 : Sto → Res Fl := sIf (tOf (fBin (gIn false) (fVar 1) (fSl (fVar 4) (oSome (fC (.int 1))) oNone))) (sSeq (sSet false 6 (fBin gSubs (fVar 4) (fBin gSub (fLM gLIdx (fVar 4) (fVar 1)) (fC (.int 1))))) (sPut 2 (fVar 6) (fBin gAdd (fGet2 (fVar 2) (fVar 6) (fC (.int 0))) (fC (.int 1))))) sNil
def y_told_parent_1 : Sto → Res Rs := fTup (aCons (fNeg (fBin gSubs (fVar 2) (fVar 6))) (aCons (fVar 6) aNil))
/-- told_parent(letters, name); slots letters, name, counts, other, answers, title, ahead -/
def g_told_parent : Sto → Res Fl := sSeq (sSet false 2 (fDic0)) (sSeq (sFor (.many [3, 4, 5]) (iOf (fVar 0)) b_told_parent_1) (sRet (fIf (tOf (fBin gNe0 (fVar 2) fDic0)) (fBin gSubs (fOne gMin (fComp (.one 6) [6] (iKeysF 2) tTrue y_told_parent_1)) (fC (.int 1))) (fC (.str [])))))
def c_told_parent : Con := runF 7 2 g_told_parent
def b_wanted_of_1 : Sto → Res Fl := sPut 1 (fVar 2) (fIf (tOf (fBin gNe (fVar 3) (fLst aNil))) (fBin gSubs (fVar 3) (fNeg (fC (.int 1)))) (fC (.str [])))
def b_wanted_of_2 : Sto → Res Fl := sIf (tOf (fBin (gIn true) (fVar 2) (fVar 1))) (sPut 1 (fVar 2) (fCall 2 c_told_parent (aCons (fVar 0) (aCons (fVar 2) aNil)))) sNil
/-- wanted_of(letters); slots letters, found, name, answers, title -/
def g_wanted_of : Sto → Res Fl := sSeq (sSet false 1 (fDic0)) (sSeq (sFor (.many [2, 3, 4]) (iOf (fVar 0)) b_wanted_of_1) (sSeq (sFor (.one 2) (iOf (fCall 1 c_names_of (aCons (fVar 0) aNil))) b_wanted_of_2) (sRet (fVar 1))))
def c_wanted_of : Con := runF 5 1 g_wanted_of
def t_ring_of_1 : Sto → Res Bool := tAnd' (tOf (fBin gNe (fVar 1) (fC (.str [])))) (tOf (fBin (gIn true) (fVar 1) (fVar 2)))
def b_ring_of_1 : Sto → Res Fl := sSeq (sMut lstAt 2 gApp (fVar 1)) (sSet false 1 (fBin gSubs (fVar 0) (fVar 1)))
/-- ring_of(wanted, name); slots wanted, name, line -/
def g_ring_of : Sto → Res Fl := sSeq (sSet false 2 (fLst aNil)) (sSeq (whileGo t_ring_of_1 b_ring_of_1 1000) (sRet (fIf (tOf (fBin gNe (fVar 1) (fC (.str [])))) (fSl (fVar 2) (oSome (fLM gLIdx (fVar 2) (fVar 1))) oNone) (fLst aNil))))
def c_ring_of : Con := runF 3 2 g_ring_of
def b_parents_of_1 : Sto → Res Fl := sSeq (sSet false 3 (fCall 2 c_ring_of (aCons (fVar 1) (aCons (fVar 2) aNil)))) (sIf (tOf (fBin gNe (fVar 3) (fLst aNil))) (sPut 1 (fOne gMin (fVar 3)) (fC (.str []))) sNil)
/-- parents_of(letters); slots letters, found, name, ring -/
def g_parents_of : Sto → Res Fl := sSeq (sSet false 1 (fCall 1 c_wanted_of (aCons (fVar 0) aNil))) (sSeq (sFor (.one 2) (iOf (fCall 1 c_names_of (aCons (fVar 0) aNil))) b_parents_of_1) (sRet (fVar 1)))
def c_parents_of : Con := runF 4 1 g_parents_of
def y_parents_1 : Sto → Res Rs := fTup (aCons (fVar 2) (aCons (fBin gSubs (fVar 1) (fVar 2)) aNil))
/-- parents(letters); slots letters, found, name -/
def g_parents : Sto → Res Fl := sSeq (sDrop (fCall 1 c_check_letters (aCons (fVar 0) aNil))) (sSeq (sSet false 1 (fCall 1 c_parents_of (aCons (fVar 0) aNil))) (sRet (fComp (.one 2) [2] (iOf (fOne gSorted (fOne gList (fVar 1)))) tTrue y_parents_1)))
def c_parents : Con := runF 3 1 g_parents
def q_children_of_1 : Sto → Res Bool := tOf (fBin gEq (fBin gSubs (fVar 0) (fVar 2)) (fVar 1))
def y_children_of_1 : Sto → Res Rs := fVar 2
/-- children_of(found, name); slots found, name, one -/
def g_children_of : Sto → Res Fl := sRet (fOne gSorted (fComp (.one 2) [2] (iKeysF 0) q_children_of_1 y_children_of_1))
def c_children_of : Con := runF 3 2 g_children_of
def t_line_of_1 : Sto → Res Bool := tOf (fBin gNe (fBin gSubs (fVar 0) (fBin gSubs (fVar 2) (fNeg (fC (.int 1))))) (fC (.str [])))
def b_line_of_1 : Sto → Res Fl := sMut lstAt 2 gApp (fBin gSubs (fVar 0) (fBin gSubs (fVar 2) (fNeg (fC (.int 1)))))
/-- line_of(found, name); slots found, name, line -/
def g_line_of : Sto → Res Fl := sSeq (sSet false 2 (fLst (aCons (fVar 1) aNil))) (sSeq (whileGo t_line_of_1 b_line_of_1 1000) (sRet (fOne gRev (fVar 2))))
def c_line_of : Con := runF 3 2 g_line_of
def y_has_letter_1 (c_rec : Con) : Sto → Res Rs := fCall 3 c_rec (aCons (fVar 0) (aCons (fVar 1) (aCons (fVar 3) aNil)))
/-- has_letter(found, here, name); slots found, here, name, child -/
def g_has_letter (c_rec : Con) : Sto → Res Fl := sSeq (sIf (tOf (fBin (gIn false) (fVar 2) (fVar 1))) (sRet (fC (.bl true))) sNil) (sRet (fOne gAny (fComp (.one 3) [3] (iOf (fCall 2 c_children_of (aCons (fVar 0) (aCons (fVar 2) aNil)))) tTrue ((y_has_letter_1 c_rec)))))
def r_has_letter : Nat → Con
  | 0 => fun _ => .no
  | m + 1 => runF 4 3 (g_has_letter (r_has_letter m))
def c_has_letter : Con := r_has_letter 60
def q_kept_children_1 : Sto → Res Bool := tOf (fCall 3 c_has_letter (aCons (fVar 0) (aCons (fVar 1) (aCons (fVar 3) aNil))))
def y_kept_children_1 : Sto → Res Rs := fVar 3
/-- kept_children(found, here, name); slots found, here, name, child -/
def g_kept_children : Sto → Res Fl := sRet (fComp (.one 3) [3] (iOf (fCall 2 c_children_of (aCons (fVar 0) (aCons (fVar 2) aNil)))) q_kept_children_1 y_kept_children_1)
def c_kept_children : Con := runF 4 3 g_kept_children
def b_rows_below_1 (c_rec : Con) : Sto → Res Fl := sSet false 4 (fBin gAdd (fVar 4) (fCall 4 c_rec (aCons (fVar 0) (aCons (fVar 1) (aCons (fVar 5) (aCons (fBin gAdd (fVar 3) (fC (.int 1))) aNil))))))
/-- rows_below(found, here, name, deep); slots found, here, name, deep, rows, child -/
def g_rows_below (c_rec : Con) : Sto → Res Fl := sSeq (sSet false 4 (fLst (aCons (fBin gAdd (fBin gMul (fC (.str [32, 32])) (fVar 3)) (fIf (tOf (fBin (gIn false) (fVar 2) (fVar 1))) (fVar 2) (fBin gAdd (fBin gAdd (fC (.str [40])) (fVar 2)) (fC (.str [41]))))) aNil))) (sSeq (sFor (.one 5) (iOf (fCall 3 c_kept_children (aCons (fVar 0) (aCons (fVar 1) (aCons (fVar 2) aNil))))) ((b_rows_below_1 c_rec))) (sRet (fVar 4)))
def r_rows_below : Nat → Con
  | 0 => fun _ => .no
  | m + 1 => runF 6 4 (g_rows_below (r_rows_below m))
def c_rows_below : Con := r_rows_below 60
def t_first_rows_1 : Sto → Res Bool := tAnd' (tOf (fBin (gIn true) (fVar 3) (fVar 1))) (tOf (fBin gEq (fOne gLen (fCall 3 c_kept_children (aCons (fVar 0) (aCons (fVar 1) (aCons (fVar 3) aNil))))) (fC (.int 1))))
def b_first_rows_1 : Sto → Res Fl := sSet false 3 (fBin gSubs (fCall 3 c_kept_children (aCons (fVar 0) (aCons (fVar 1) (aCons (fVar 3) aNil)))) (fC (.int 0)))
def b_first_rows_2 : Sto → Res Fl := sSeq (whileGo t_first_rows_1 b_first_rows_1 1000) (sMut lstAt 2 gApp (fVar 3))
/-- first_rows(found, here); slots found, here, tops, name -/
def g_first_rows : Sto → Res Fl := sSeq (sSet false 2 (fLst aNil)) (sSeq (sFor (.one 3) (iOf (fCall 3 c_kept_children (aCons (fVar 0) (aCons (fVar 1) (aCons (fC (.str [])) aNil))))) b_first_rows_2) (sRet (fOne gSorted (fVar 2))))
def c_first_rows : Con := runF 4 2 g_first_rows
def b_drawn_1 : Sto → Res Fl := sPut 2 (fVar 4) (fC (.bl true))
def b_drawn_2 : Sto → Res Fl := sSet false 3 (fBin gAdd (fVar 3) (fCall 4 c_rows_below (aCons (fVar 1) (aCons (fVar 2) (aCons (fVar 4) (aCons (fC (.int 0)) aNil))))))
/-- drawn(letters); slots letters, found, here, rows, name, answers, title -/
def g_drawn : Sto → Res Fl := sSeq (sDrop (fCall 1 c_check_letters (aCons (fVar 0) aNil))) (sSeq (sPar [1, 2, 3] (aCons (fCall 1 c_parents_of (aCons (fVar 0) aNil)) (aCons fDic0 (aCons (fLst aNil) aNil)))) (sSeq (sFor (.many [4, 5, 6]) (iOf (fVar 0)) b_drawn_1) (sSeq (sFor (.one 4) (iOf (fCall 2 c_first_rows (aCons (fVar 1) (aCons (fVar 2) aNil)))) b_drawn_2) (sRet (fVar 3)))))
def c_drawn : Con := runF 7 1 g_drawn
def b_split_of_1 : Sto → Res Fl := sPut 2 (fVar 4) (fCall 1 c_bare_of (aCons (fVar 6) aNil))
def q_split_of_1 : Sto → Res Bool := tOf (fBin (gIn false) (fVar 8) (fVar 2))
def y_split_of_1 : Sto → Res Rs := fVar 8
def b_split_of_2 : Sto → Res Fl := sSeq (sSet false 7 (fComp (.one 8) [8] (iOf (fSl (fCall 2 c_line_of (aCons (fVar 1) (aCons (fVar 4) aNil))) oNone (oSome (fNeg (fC (.int 1)))))) q_split_of_1 y_split_of_1)) (sIf (tAnd' (tOf (fBin gNe (fVar 7) (fLst aNil))) (tOf (fBin gNe (fBin gSubs (fVar 2) (fBin gSubs (fVar 7) (fNeg (fC (.int 1))))) (fBin gSubs (fVar 2) (fVar 4))))) (sMut lstAt 3 gApp (fVar 4)) sNil)
/-- split_of(letters, found); slots letters, found, titles, some, name, answers, title, above, one -/
def g_split_of : Sto → Res Fl := sSeq (sUnp [2, 3] (fTup (aCons fDic0 (aCons (fLst aNil) aNil)))) (sSeq (sFor (.many [4, 5, 6]) (iOf (fVar 0)) b_split_of_1) (sSeq (sFor (.one 4) (iOf (fOne gSorted (fOne gList (fVar 2)))) b_split_of_2) (sRet (fVar 3))))
def c_split_of : Con := runF 9 2 g_split_of
def b_tied_of_1 : Sto → Res Fl := sPut 2 (fVar 5) (fCall 1 c_bare_of (aCons (fVar 7) aNil))
def q_tied_of_1 : Sto → Res Bool := tOf (fBin (gIn true) (fVar 9) (fVar 3))
def y_tied_of_1 : Sto → Res Rs := fVar 9
def q_tied_of_2 : Sto → Res Bool := tAnd' (tOf (fBin gEq (fGet2 (fVar 2) (fVar 10) (fC (.str []))) (fBin gSubs (fVar 2) (fVar 5)))) (tOf (fBin gNe (fVar 10) (fVar 5)))
def y_tied_of_2 : Sto → Res Rs := fVar 10
def b_tied_of_2 : Sto → Res Fl := sSeq (sPut 4 (fVar 5) (fComp (.one 9) [9] (iOf (fCall 2 c_children_of (aCons (fVar 1) (aCons (fVar 5) aNil)))) q_tied_of_1 y_tied_of_1)) (sIf (tAnd' (tOf (fBin gNe (fBin gSubs (fVar 1) (fVar 5)) (fC (.str [])))) (tOf (fBin (gIn true) (fVar 5) (fVar 3)))) (sAppIn 4 (fVar 5) (fBin gSubs (fVar 1) (fVar 5))) (sIf (tAnd' (tOf (fBin gEq (fBin gSubs (fVar 1) (fVar 5)) (fC (.str [])))) (tOf (fBin gNe (fGet2 (fVar 2) (fVar 5) (fC (.str []))) (fC (.str []))))) (sSeq (sSet false 8 (fComp (.one 10) [10] (iOf (fCall 2 c_children_of (aCons (fVar 1) (aCons (fC (.str [])) aNil)))) q_tied_of_2 y_tied_of_2)) (sExtIn 4 (fVar 5) (fVar 8))) sNil))
/-- tied_of(letters); slots letters, found, titles, split, near, name, answers, title, alike, child, top -/
def g_tied_of : Sto → Res Fl := sSeq (sUnp [1, 2] (fTup (aCons (fCall 1 c_parents_of (aCons (fVar 0) aNil)) (aCons fDic0 aNil)))) (sSeq (sUnp [3, 4] (fTup (aCons (fCall 2 c_split_of (aCons (fVar 0) (aCons (fVar 1) aNil))) (aCons fDic0 aNil)))) (sSeq (sFor (.many [5, 6, 7]) (iOf (fVar 0)) b_tied_of_1) (sSeq (sForD (.one 5) 1 b_tied_of_2) (sRet (fVar 4)))))
def c_tied_of : Con := runF 11 1 g_tied_of
def i_Together___init__ : ICon := initF 2 1 [112, 97, 116, 104] (fOne gList (fVar 1))
def y_Together_shows_1 : Sto → Res Rs := fBin (gIn false) (fVar 7) (fVar 4)
def y_Together_shows_2 : Sto → Res Rs := fBin (gIn false) (fVar 6) (fBin gSubs (fVar 4) (fVar 5))
/-- Together.shows(self, letters, one, other); slots self, letters, one, other, near, ahead, after, name -/
def g_Together_shows : Sto → Res Fl := sSeq (sSet false 4 (fCall 1 c_tied_of (aCons (fVar 1) aNil))) (sSeq (sIf (tOr' (tOf (fBin gEq (fOne (gAtt [112, 97, 116, 104] [[84, 111, 103, 101, 116, 104, 101, 114]]) (fVar 0)) (fLst aNil))) (tOr' (tOf (fBin gNe (fBin gSubs (fOne (gAtt [112, 97, 116, 104] [[84, 111, 103, 101, 116, 104, 101, 114]]) (fVar 0)) (fC (.int 0))) (fVar 2))) (tOf (fBin gNe (fBin gSubs (fOne (gAtt [112, 97, 116, 104] [[84, 111, 103, 101, 116, 104, 101, 114]]) (fVar 0)) (fNeg (fC (.int 1)))) (fVar 3))))) (sRet (fC (.bl false))) sNil) (sSeq (sIf (tNot' (tOf (fOne gAll (fComp (.one 7) [7] (iOf (fOne (gAtt [112, 97, 116, 104] [[84, 111, 103, 101, 116, 104, 101, 114]]) (fVar 0))) tTrue y_Together_shows_1)))) (sRet (fC (.bl false))) sNil) (sRet (fOne gAll (fComp (.many [5, 6]) [5, 6] (iZipF (fOne (gAtt [112, 97, 116, 104] [[84, 111, 103, 101, 116, 104, 101, 114]]) (fVar 0)) (fSl (fOne (gAtt [112, 97, 116, 104] [[84, 111, 103, 101, 116, 104, 101, 114]]) (fVar 0)) (oSome (fC (.int 1))) oNone)) tTrue y_Together_shows_2)))))
def c_Together_shows : Con := runF 8 4 g_Together_shows
def i_Apart___init__ : ICon := initF 2 1 [110, 97, 109, 101, 115] (fOne gList (fVar 1))
def y_Apart_shows_1 : Sto → Res Rs := fBin (gIn false) (fVar 5) (fVar 4)
def y_Apart_shows_2 : Sto → Res Rs := fBin (gIn false) (fVar 6) (fOne (gAtt [110, 97, 109, 101, 115] [[65, 112, 97, 114, 116]]) (fVar 0))
def b_Apart_shows_1 : Sto → Res Fl := sIf (tNot' (tOf (fOne gAll (fComp (.one 6) [6] (iOf (fBin gSubs (fVar 4) (fVar 5))) tTrue y_Apart_shows_2)))) (sRet (fC (.bl false))) sNil
/-- Apart.shows(self, letters, one, other); slots self, letters, one, other, near, name, more -/
def g_Apart_shows : Sto → Res Fl := sSeq (sSet false 4 (fCall 1 c_tied_of (aCons (fVar 1) aNil))) (sSeq (sIf (tOr' (tOf (fBin gNe (fOne (gAtt [110, 97, 109, 101, 115] [[65, 112, 97, 114, 116]]) (fVar 0)) (fOne gSortSet (fOne (gAtt [110, 97, 109, 101, 115] [[65, 112, 97, 114, 116]]) (fVar 0))))) (tOr' (tOf (fBin (gIn true) (fVar 2) (fOne (gAtt [110, 97, 109, 101, 115] [[65, 112, 97, 114, 116]]) (fVar 0)))) (tOf (fBin (gIn false) (fVar 3) (fOne (gAtt [110, 97, 109, 101, 115] [[65, 112, 97, 114, 116]]) (fVar 0)))))) (sRet (fC (.bl false))) sNil) (sSeq (sIf (tNot' (tOf (fOne gAll (fComp (.one 5) [5] (iOf (fOne (gAtt [110, 97, 109, 101, 115] [[65, 112, 97, 114, 116]]) (fVar 0))) tTrue y_Apart_shows_1)))) (sRet (fC (.bl false))) sNil) (sSeq (sFor (.one 5) (iOf (fOne (gAtt [110, 97, 109, 101, 115] [[65, 112, 97, 114, 116]]) (fVar 0))) b_Apart_shows_1) (sRet (fC (.bl true))))))
def c_Apart_shows : Con := runF 7 4 g_Apart_shows
/-- row_of(text); slots text, bare, many, gap, name -/
def g_row_of : Sto → Res Fl := sSeq (sSet false 1 (fM1 gLstrip (fVar 0) (fC (.str [32])))) (sSeq (sSet false 2 (fBin gSub (fOne gLen (fVar 0)) (fOne gLen (fVar 1)))) (sSeq (sSet false 3 (fAnd (fBin gEq (fSl (fVar 1) oNone (oSome (fC (.int 1)))) (fC (.str [40]))) (fBin gEq (fSl (fVar 1) (oSome (fNeg (fC (.int 1)))) oNone) (fC (.str [41]))))) (sSeq (sSet true 4 (fIf (tOf (fVar 3)) (fSl (fVar 1) (oSome (fC (.int 1))) (oSome (fNeg (fC (.int 1))))) (fVar 1))) (sRet (fIf (tAnd' (tOf (fBin gEq (fBin gMod (fVar 2) (fC (.int 2))) (fC (.int 0)))) (tOf (fCall 1 c_is_name (aCons (fVar 4) aNil)))) (fTup (aCons (fBin gFdv (fVar 2) (fC (.int 2))) (aCons (fVar 4) (aCons (fVar 3) aNil)))) (fC .non))))))
def c_row_of : Con := runF 5 1 g_row_of
def y_read_of_1 : Sto → Res Rs := fBin gSubs (fVar 6) (fC (.int 0))
def b_read_of_1 : Sto → Res Fl := sSeq (sSet false 5 (fCall 1 c_row_of (aCons (fVar 4) aNil))) (sSeq (sIf (tOr' (tOf (fBin (gIs false) (fVar 5) (fC .non))) (tOr' (tOf (fBin gGt (fBin gSubs (fVar 5) (fC (.int 0))) (fOne gLen (fVar 2)))) (tOf (fBin (gIn false) (fBin gSubs (fVar 5) (fC (.int 1))) (fComp (.one 6) [6] (iOf (fVar 1)) tTrue y_read_of_1))))) (sRet (fTup (aCons (fVar 1) (aCons (fVar 3) aNil)))) sNil) (sSeq (sSet false 2 (fBin gAdd (fSl (fVar 2) oNone (oSome (fBin gSubs (fVar 5) (fC (.int 0))))) (fLst (aCons (fBin gSubs (fVar 5) (fC (.int 1))) aNil)))) (sMut lstAt 1 gApp (fTup (aCons (fBin gSubs (fVar 5) (fC (.int 1))) (aCons (fBin gSubs (fVar 5) (fC (.int 2))) (aCons (fIf (tOf (fBin gGt (fOne gLen (fVar 2)) (fC (.int 1)))) (fBin gSubs (fVar 2) (fNeg (fC (.int 2)))) (fC (.str []))) aNil)))))))
/-- read_of(rows); slots rows, found, line, at, text, row, one -/
def g_read_of : Sto → Res Fl := sSeq (sPar [1, 2] (aCons (fLst aNil) (aCons (fLst aNil) aNil))) (sSeq (sFor (.many [3, 4]) (iEnumF (fVar 0)) b_read_of_1) (sRet (fTup (aCons (fOne gSorted (fVar 1)) (aCons (fNeg (fC (.int 1))) aNil)))))
def c_read_of : Con := runF 7 1 g_read_of
def i_Forest___init__ : ICon := initF 2 1 [116, 105, 101, 115] (fOne gList (fVar 1))
/-- Forest.shows(self, rows); slots self, rows -/
def g_Forest_shows : Sto → Res Fl := sRet (fBin gEq (fCall 1 c_read_of (aCons (fVar 1) aNil)) (fTup (aCons (fOne (gAtt [116, 105, 101, 115] [[70, 111, 114, 101, 115, 116]]) (fVar 0)) (aCons (fNeg (fC (.int 1))) aNil))))
def c_Forest_shows : Con := runF 2 2 g_Forest_shows
def i_Wrong___init__ : ICon := initF 2 1 [114, 111, 119] (fVar 1)
/-- Wrong.shows(self, rows); slots self, rows -/
def g_Wrong_shows : Sto → Res Fl := sRet (fAnd (fBin gGe (fOne (gAtt [114, 111, 119] [[87, 114, 111, 110, 103]]) (fVar 0)) (fC (.int 0))) (fBin gEq (fBin gSubs (fCall 1 c_read_of (aCons (fVar 1) aNil)) (fC (.int 1))) (fOne (gAtt [114, 111, 119] [[87, 114, 111, 110, 103]]) (fVar 0))))
def c_Wrong_shows : Con := runF 2 2 g_Wrong_shows
def y_read_1 : Sto → Res Rs := fAnd (fOne (gIsi (isT "str") noOwn) (fVar 3)) (fBin gLe (fOne gLen (fVar 3)) (fC (.int 40)))
/-- read(rows); slots rows, ties, wrong, row -/
def g_read : Sto → Res Fl := sSeq (sIf (tOr' (tNot' (tOf (fOne (gIsi (isT "list") noOwn) (fVar 0)))) (tOf (fBin gGt (fOne gLen (fVar 0)) (fC (.int 20))))) (sRaise [66, 97, 100, 82, 111, 119, 115]) sNil) (sSeq (sIf (tNot' (tOf (fOne gAll (fComp (.one 3) [3] (iOf (fVar 0)) tTrue y_read_1)))) (sRaise [66, 97, 100, 82, 111, 119, 115]) sNil) (sSeq (sUnp [1, 2] (fCall 1 c_read_of (aCons (fVar 0) aNil))) (sRet (fIf (tOf (fBin gLt (fVar 2) (fC (.int 0)))) (fMake [70, 111, 114, 101, 115, 116] 1 i_Forest___init__ (aCons (fVar 1) aNil)) (fMake [87, 114, 111, 110, 103] 1 i_Wrong___init__ (aCons (fVar 2) aNil))))))
def c_read : Con := runF 4 1 g_read
/-- split(letters); slots letters -/
def g_split : Sto → Res Fl := sSeq (sDrop (fCall 1 c_check_letters (aCons (fVar 0) aNil))) (sRet (fCall 2 c_split_of (aCons (fVar 0) (aCons (fCall 1 c_parents_of (aCons (fVar 0) aNil)) aNil))))
def c_split : Con := runF 1 1 g_split
def b_ways_from_1 : Sto → Res Fl := sIf (tOf (fBin (gIn true) (fVar 6) (fVar 2))) (sSeq (sPut 2 (fVar 6) (fBin gAdd (fBin gSubs (fVar 2) (fVar 5)) (fLst (aCons (fVar 6) aNil)))) (sMut lstAt 4 gApp (fVar 6))) sNil
def b_ways_from_2 : Sto → Res Fl := sFor (.one 6) (iOf (fOne gSorted (fBin gSubs (fVar 0) (fVar 5)))) b_ways_from_1
def t_ways_from_1 : Sto → Res Bool := tOf (fBin gNe (fVar 3) (fLst aNil))
def b_ways_from_3 : Sto → Res Fl := sSeq (sSet false 4 (fLst aNil)) (sSeq (sFor (.one 5) (iOf (fVar 3)) b_ways_from_2) (sSet true 3 (fVar 4)))
/-- ways_from(near, first); slots near, first, ways, line, more, name, other -/
def g_ways_from : Sto → Res Fl := sSeq (sPar [2, 3] (aCons (fDic1 (fVar 1) (fLst (aCons (fVar 1) aNil))) (aCons (fLst (aCons (fVar 1) aNil)) aNil))) (sSeq (whileGo t_ways_from_1 b_ways_from_3 1000) (sRet (fVar 2)))
def c_ways_from : Con := runF 7 2 g_ways_from
def y_talks_1 : Sto → Res Rs := fBin gSubs (fVar 8) (fC (.int 0))
def q_talks_1 : Sto → Res Bool := tOf (fBin (gIn false) (fVar 6) (fCall 2 c_ways_from (aCons (fVar 1) (aCons (fVar 5) aNil))))
def y_talks_2 : Sto → Res Rs := fVar 6
def b_talks_1 : Sto → Res Fl := sIf (tOf (fBin (gIn true) (fVar 5) (fVar 3))) (sSeq (sSet false 7 (fComp (.one 6) [6] (iOf (fVar 4)) q_talks_1 y_talks_2)) (sSeq (sPutEach 7 3 6 (.bl true)) (sMut lstAt 2 gApp (fVar 7)))) sNil
/-- talks(letters); slots letters, near, found, seen, here, name, other, lot, letter -/
def g_talks : Sto → Res Fl := sSeq (sDrop (fCall 1 c_check_letters (aCons (fVar 0) aNil))) (sSeq (sUnp [1, 2, 3] (fTup (aCons (fCall 1 c_tied_of (aCons (fVar 0) aNil)) (aCons (fLst aNil) (aCons fDic0 aNil))))) (sSeq (sSet false 4 (fOne gSorted (fComp (.one 8) [8] (iOf (fVar 0)) tTrue y_talks_1))) (sSeq (sFor (.one 5) (iOf (fVar 4)) b_talks_1) (sRet (fVar 2)))))
def c_talks : Con := runF 9 1 g_talks
def y_judged_1 : Sto → Res Rs := fBin gSubs (fVar 6) (fC (.int 0))
def b_judged_1 : Sto → Res Fl := sIf (tOr' (tNot' (tOf (fOne (gIsi (isT "str") noOwn) (fVar 4)))) (tOf (fBin (gIn true) (fVar 4) (fVar 3)))) (sRaise [66, 97, 100, 78, 97, 109, 101]) sNil
/-- judged(letters, one, other); slots letters, one, other, here, name, ways, letter -/
def g_judged : Sto → Res Fl := sSeq (sDrop (fCall 1 c_check_letters (aCons (fVar 0) aNil))) (sSeq (sSet false 3 (fComp (.one 6) [6] (iOf (fVar 0)) tTrue y_judged_1)) (sSeq (sFor (.one 4) (iOf (fTup (aCons (fVar 1) (aCons (fVar 2) aNil)))) b_judged_1) (sSeq (sSet false 5 (fCall 2 c_ways_from (aCons (fCall 1 c_tied_of (aCons (fVar 0) aNil)) (aCons (fVar 1) aNil)))) (sRet (fIf (tOf (fBin (gIn false) (fVar 2) (fVar 5))) (fMake [84, 111, 103, 101, 116, 104, 101, 114] 1 i_Together___init__ (aCons (fBin gSubs (fVar 5) (fVar 2)) aNil)) (fMake [65, 112, 97, 114, 116] 1 i_Apart___init__ (aCons (fOne gSorted (fOne gList (fVar 5))) aNil)))))))
def c_judged : Con := runF 7 3 g_judged
/-- check_letter(letter); slots letter -/
def g_check_letter : Sto → Res Fl := sIf (tNot' (tOf (fCall 1 c_is_letter (aCons (fVar 0) aNil)))) (sRaise [66, 97, 100, 76, 101, 116, 116, 101, 114]) sNil
def c_check_letter : Con := runF 1 1 g_check_letter
def y_copied_1 : Sto → Res Rs := fTup (aCons (fVar 1) (aCons (fOne gList (fVar 2)) (aCons (fVar 3) aNil)))
/-- copied(letters); slots letters, name, answers, title -/
def g_copied : Sto → Res Fl := sRet (fComp (.many [1, 2, 3]) [1, 2, 3] (iOf (fVar 0)) tTrue y_copied_1)
def c_copied : Con := runF 4 1 g_copied
def b_changes_of_1 : Sto → Res Fl := sIf (tOf (fBin gNe (fGet1 (fVar 0) (fVar 3)) (fGet1 (fVar 1) (fVar 3)))) (sMut lstAt 2 gApp (fTup (aCons (fVar 3) (aCons (fGet1 (fVar 0) (fVar 3)) (aCons (fGet1 (fVar 1) (fVar 3)) aNil))))) sNil
/-- changes_of(before, after); slots before, after, found, name -/
def g_changes_of : Sto → Res Fl := sSeq (sSet false 2 (fLst aNil)) (sSeq (sFor (.one 3) (iOf (fOne gSortSet (fBin gAdd (fOne gList (fVar 0)) (fOne gList (fVar 1))))) b_changes_of_1) (sRet (fVar 2)))
def c_changes_of : Con := runF 4 2 g_changes_of
def i_Desk___init__ : ICon := initF 1 0 [108, 121, 105, 110, 103] (fLst aNil)
def y_Desk_come_1 : Sto → Res Rs := fBin gSubs (fVar 3) (fC (.int 0))
/-- Desk.come(self, letter); slots self, letter, before, one -/
def g_Desk_come : MFn := mDrop (fCall 1 c_check_letter (aCons (fVar 1) aNil)) (mIf (tOf (fBin (gIn false) (fBin gSubs (fVar 1) (fC (.int 0))) (fComp (.one 3) [3] (iOf (fOne (gAtt [108, 121, 105, 110, 103] [[68, 101, 115, 107]]) (fVar 0))) tTrue y_Desk_come_1))) (sRaise [75, 110, 111, 119, 110]) (mIf (tOf (fBin gEq (fOne gLen (fOne (gAtt [108, 121, 105, 110, 103] [[68, 101, 115, 107]]) (fVar 0))) (fC (.int 9)))) (sRaise [84, 111, 111, 77, 97, 110, 121]) (mSet 2 (fCall 1 c_parents_of (aCons (fOne (gAtt [108, 121, 105, 110, 103] [[68, 101, 115, 107]]) (fVar 0)) aNil)) (mTail [68, 101, 115, 107] [108, 121, 105, 110, 103] (fOne gSorted (fBin gAdd (fOne (gAtt [108, 121, 105, 110, 103] [[68, 101, 115, 107]]) (fVar 0)) (fCall 1 c_copied (aCons (fLst (aCons (fVar 1) aNil)) aNil)))) (fCall 2 c_changes_of (aCons (fVar 2) (aCons (fCall 1 c_parents_of (aCons (fOne (gAtt [108, 121, 105, 110, 103] [[68, 101, 115, 107]]) (fVar 0)) aNil)) aNil)))))))
def c_Desk_come : MCon := runM 4 2 [68, 101, 115, 107] [108, 121, 105, 110, 103] g_Desk_come
def q_Desk_go_1 : Sto → Res Bool := tOf (fBin gNe (fBin gSubs (fVar 3) (fC (.int 0))) (fVar 1))
def y_Desk_go_1 : Sto → Res Rs := fVar 3
def y_Desk_go_2 : Sto → Res Rs := fBin gSubs (fVar 3) (fC (.int 0))
/-- Desk.go(self, name); slots self, name, before, one -/
def g_Desk_go : MFn := mIf (tOr' (tNot' (tOf (fOne (gIsi (isT "str") noOwn) (fVar 1)))) (tOf (fBin (gIn true) (fVar 1) (fComp (.one 3) [3] (iOf (fOne (gAtt [108, 121, 105, 110, 103] [[68, 101, 115, 107]]) (fVar 0))) tTrue y_Desk_go_2)))) (sRaise [66, 97, 100, 78, 97, 109, 101]) (mSet 2 (fCall 1 c_parents_of (aCons (fOne (gAtt [108, 121, 105, 110, 103] [[68, 101, 115, 107]]) (fVar 0)) aNil)) (mTail [68, 101, 115, 107] [108, 121, 105, 110, 103] (fComp (.one 3) [3] (iOf (fOne (gAtt [108, 121, 105, 110, 103] [[68, 101, 115, 107]]) (fVar 0))) q_Desk_go_1 y_Desk_go_1) (fCall 2 c_changes_of (aCons (fVar 2) (aCons (fCall 1 c_parents_of (aCons (fOne (gAtt [108, 121, 105, 110, 103] [[68, 101, 115, 107]]) (fVar 0)) aNil)) aNil)))))
def c_Desk_go : MCon := runM 4 2 [68, 101, 115, 107] [108, 121, 105, 110, 103] g_Desk_go
/-- Desk.letters(self); slots self -/
def g_Desk_letters : Sto → Res Fl := sRet (fCall 1 c_copied (aCons (fOne (gAtt [108, 121, 105, 110, 103] [[68, 101, 115, 107]]) (fVar 0)) aNil))
def c_Desk_letters : Con := runF 1 1 g_Desk_letters
/-- Desk.drawn(self); slots self -/
def g_Desk_drawn : Sto → Res Fl := sRet (fCall 1 c_drawn (aCons (fOne (gAtt [108, 121, 105, 110, 103] [[68, 101, 115, 107]]) (fVar 0)) aNil))
def c_Desk_drawn : Con := runF 1 1 g_Desk_drawn
def t__wall_1 : Sto → Res Bool := tOf (fC (.bl true))
def b__wall_1 : Sto → Res Fl := sPass
/-- _wall(k); slots k -/
def g__wall : Sto → Res Fl := whileGo t__wall_1 b__wall_1 1000
def c__wall : Con := runF 1 1 g__wall
/-- Desk.parents(self); slots self -/
def g_Desk_parents_v3 : Sto → Res Fl := sDrop (fCall 1 c__wall (aCons (fC (.int 0)) aNil))
def c_Desk_parents_v3 : Con := runF 1 1 g_Desk_parents_v3
/-- _law_turned(_law_letters, _law_by); slots _law_letters, _law_by, _law_spot -/
def g__law_turned : Sto → Res Fl := sSeq (sSet false 2 (fBin gMod (fVar 1) (fOne gLen (fVar 0)))) (sRet (fBin gAdd (fSl (fVar 0) (oSome (fVar 2)) oNone) (fSl (fVar 0) oNone (oSome (fVar 2)))))
def c__law_turned : Con := runF 3 2 g__law_turned
def b__law_parents_right_1 : Sto → Res Fl := sMut lstAt 5 gApp (fTup (aCons (fBin gSubs (fVar 4) (fVar 6)) (aCons (fBin gSubs (fVar 4) (fBin gAdd (fVar 6) (fC (.int 1)))) aNil)))
def b__law_parents_right_2 : Sto → Res Fl := sSeq (sPar [4, 5] (aCons (fM1 gSplit (fVar 3) (fC (.str [32]))) (aCons (fLst aNil) aNil))) (sSeq (sFor (.one 6) (iRange3 (aCons (fC (.int 0)) (aCons (fOne gLen (fVar 4)) (aCons (fC (.int 2)) aNil)))) b__law_parents_right_1) (sIf (tOf (fBin gNe (fCall 1 c_parents (aCons (fCall 2 c__law_turned (aCons (fVar 2) (aCons (fVar 0) aNil))) aNil)) (fVar 5))) (sRet (fC (.bl false))) sNil))
/-- _law_parents_right(_law_by); slots _law_by, _law_cases, _law_letters, _law_words, _law_signs, _law_due, _law_at -/
def g__law_parents_right : Sto → Res Fl := sSeq (sSet false 1 (fLst (aCons (fTup (aCons (fLst (aCons (fTup (aCons (fC (.str [97])) (aCons (fLst (aCons (fC (.str [120])) (aCons (fC (.str [103])) aNil))) (aCons (fC (.str [])) aNil)))) (aCons (fTup (aCons (fC (.str [98])) (aCons (fLst (aCons (fC (.str [121])) (aCons (fC (.str [103])) aNil))) (aCons (fC (.str [])) aNil)))) aNil))) (aCons (fC (.str [97, 32, 103, 32, 98, 32, 103, 32, 103, 32, 120, 32, 120, 32, 32, 121, 32])) aNil))) aNil))) (sSeq (sSet false 1 (fBin gAdd (fVar 1) (fLst (aCons (fTup (aCons (fLst (aCons (fTup (aCons (fC (.str [99])) (aCons (fLst (aCons (fC (.str [103])) aNil)) (aCons (fC (.str [])) aNil)))) aNil)) (aCons (fC (.str [99, 32, 103, 32, 103, 32])) aNil))) (aCons (fTup (aCons (fLst (aCons (fTup (aCons (fC (.str [100])) (aCons (fLst (aCons (fC (.str [112])) (aCons (fC (.str [113])) (aCons (fC (.str [114])) aNil)))) (aCons (fC (.str [])) aNil)))) aNil)) (aCons (fC (.str [100, 32, 114, 32, 112, 32, 32, 113, 32, 112, 32, 114, 32, 113])) aNil))) aNil))))) (sSeq (sSet false 1 (fBin gAdd (fVar 1) (fLst (aCons (fTup (aCons (fLst (aCons (fTup (aCons (fC (.str [97])) (aCons (fLst (aCons (fC (.str [98])) aNil)) (aCons (fC (.str [])) aNil)))) (aCons (fTup (aCons (fC (.str [98])) (aCons (fLst (aCons (fC (.str [99])) aNil)) (aCons (fC (.str [])) aNil)))) (aCons (fTup (aCons (fC (.str [99])) (aCons (fLst (aCons (fC (.str [97])) aNil)) (aCons (fC (.str [])) aNil)))) (aCons (fTup (aCons (fC (.str [100])) (aCons (fLst (aCons (fC (.str [98])) aNil)) (aCons (fC (.str [])) aNil)))) aNil))))) (aCons (fC (.str [97, 32, 32, 98, 32, 99, 32, 99, 32, 97, 32, 100, 32, 98])) aNil))) aNil)))) (sSeq (sSet false 1 (fBin gAdd (fVar 1) (fLst (aCons (fTup (aCons (fLst (aCons (fTup (aCons (fC (.str [98])) (aCons (fLst (aCons (fC (.str [103])) aNil)) (aCons (fC (.str [])) aNil)))) (aCons (fTup (aCons (fC (.str [99])) (aCons (fLst (aCons (fC (.str [98])) (aCons (fC (.str [103])) aNil))) (aCons (fC (.str [])) aNil)))) aNil))) (aCons (fC (.str [98, 32, 32, 99, 32, 103, 32, 103, 32, 98])) aNil))) aNil)))) (sSeq (sSet false 1 (fBin gAdd (fVar 1) (fLst (aCons (fTup (aCons (fLst (aCons (fTup (aCons (fC (.str [122])) (aCons (fLst (aCons (fC (.str [103])) aNil)) (aCons (fC (.str [])) aNil)))) (aCons (fTup (aCons (fC (.str [121])) (aCons (fLst (aCons (fC (.str [122])) (aCons (fC (.str [103])) aNil))) (aCons (fC (.str [])) aNil)))) aNil))) (aCons (fC (.str [103, 32, 32, 121, 32, 103, 32, 122, 32, 103])) aNil))) aNil)))) (sSeq (sSet false 1 (fBin gAdd (fVar 1) (fLst (aCons (fTup (aCons (fLst (aCons (fTup (aCons (fC (.str [109])) (aCons (fLst (aCons (fC (.str [110])) aNil)) (aCons (fC (.str [])) aNil)))) (aCons (fTup (aCons (fC (.str [110])) (aCons (fLst (aCons (fC (.str [109])) aNil)) (aCons (fC (.str [])) aNil)))) (aCons (fTup (aCons (fC (.str [111])) (aCons (fLst (aCons (fC (.str [109])) (aCons (fC (.str [110])) aNil))) (aCons (fC (.str [])) aNil)))) aNil)))) (aCons (fC (.str [109, 32, 32, 110, 32, 109, 32, 111, 32, 110])) aNil))) aNil)))) (sSeq (sSet false 2 (fLst (aCons (fTup (aCons (fC (.str [97])) (aCons (fLst (aCons (fC (.str [117])) (aCons (fC (.str [118])) (aCons (fC (.str [117, 118])) aNil)))) (aCons (fC (.str [])) aNil)))) (aCons (fTup (aCons (fC (.str [98])) (aCons (fLst (aCons (fC (.str [119])) (aCons (fC (.str [118])) aNil))) (aCons (fC (.str [])) aNil)))) (aCons (fTup (aCons (fC (.str [99])) (aCons (fLst (aCons (fC (.str [119])) (aCons (fC (.str [118])) aNil))) (aCons (fC (.str [])) aNil)))) aNil))))) (sSeq (sSet false 1 (fBin gAdd (fVar 1) (fLst (aCons (fTup (aCons (fVar 2) (aCons (fC (.str [97, 32, 117, 118, 32, 98, 32, 118, 32, 99, 32, 118, 32, 117, 32, 32, 117, 118, 32, 118, 32, 118, 32, 119, 32, 119, 32])) aNil))) aNil)))) (sSeq (sFor (.many [2, 3]) (iOf (fVar 1)) b__law_parents_right_2) (sRet (fC (.bl true)))))))))))
def c__law_parents_right : Con := runF 7 1 g__law_parents_right
def y__law_titles_right_1 : Sto → Res Rs := fBin gNe (fCall 1 c_bare (aCons (fVar 2) aNil)) (fVar 3)
def b__law_titles_right_1 : Sto → Res Fl := sTryN 1 [([66, 97, 100, 84, 105, 116, 108, 101], true)] (fCall 1 c_bare (aCons (fVar 1) aNil))
/-- _law_titles_right(); slots _law_cases, _law_bad, _law_title, _law_due -/
def g__law_titles_right : Sto → Res Fl := sSeq (sSet false 0 (fLst (aCons (fTup (aCons (fC (.str [114, 101, 58, 114, 101, 58, 32, 120])) (aCons (fC (.str [120])) aNil))) (aCons (fTup (aCons (fC (.str [32, 114, 101, 32, 58, 32, 120])) (aCons (fC (.str [114, 101, 32, 58, 32, 120])) aNil))) (aCons (fTup (aCons (fC (.str [114, 101, 58])) (aCons (fC (.str [])) aNil))) (aCons (fTup (aCons (fC (.str [114, 101, 58, 32, 114, 101, 58, 97, 32, 32, 98])) (aCons (fC (.str [97, 32, 98])) aNil))) aNil)))))) (sSeq (sSet false 0 (fBin gAdd (fVar 0) (fLst (aCons (fTup (aCons (fC (.str [97, 114, 101, 58])) (aCons (fC (.str [97, 114, 101, 58])) aNil))) (aCons (fTup (aCons (fC (.str [114, 101, 58, 32, 32, 114, 101, 58, 32])) (aCons (fC (.str [])) aNil))) aNil))))) (sSeq (sIf (tOf (fOne gAny (fComp (.many [2, 3]) [2, 3] (iOf (fVar 0)) tTrue y__law_titles_right_1))) (sRet (fC (.bl false))) sNil) (sSeq (sFor (.one 1) (iOf (fTup (aCons (fC (.str [82, 69, 58])) (aCons (fC (.str [114, 101, 58, 88])) (aCons (fC (.str [97, 97, 97, 97, 97, 97, 97, 97, 97, 97, 97, 97, 97])) (aCons (fC (.str [97, 46, 98])) (aCons (fC .non) aNil))))))) b__law_titles_right_1) (sRet (fC (.bl true))))))
def c__law_titles_right : Con := runF 4 0 g__law_titles_right
def b__law_talks_right_v2_1 : Sto → Res Fl := sIf (tOr' (tOf (fBin gNe (fCall 1 c_split (aCons (fCall 2 c__law_turned (aCons (fVar 2) (aCons (fVar 0) aNil))) aNil)) (fVar 3))) (tOf (fBin gNe (fCall 1 c_talks (aCons (fCall 2 c__law_turned (aCons (fVar 2) (aCons (fVar 0) aNil))) aNil)) (fVar 4)))) (sRet (fC (.bl false))) sNil
/-- _law_talks_right(_law_by); slots _law_by, _law_cases, _law_letters, _law_out, _law_lots -/
def g__law_talks_right_v2 : Sto → Res Fl := sSeq (sSet false 1 (fLst (aCons (fTup (aCons (fLst (aCons (fTup (aCons (fC (.str [97])) (aCons (fLst (aCons (fC (.str [103])) aNil)) (aCons (fC (.str [111, 110, 101])) aNil)))) (aCons (fTup (aCons (fC (.str [98])) (aCons (fLst (aCons (fC (.str [103])) aNil)) (aCons (fC (.str [116, 119, 111])) aNil)))) aNil))) (aCons (fLst aNil) (aCons (fLst (aCons (fLst (aCons (fC (.str [97])) (aCons (fC (.str [98])) aNil))) aNil)) aNil)))) aNil))) (sSeq (sSet false 1 (fBin gAdd (fVar 1) (fLst (aCons (fTup (aCons (fLst (aCons (fTup (aCons (fC (.str [116])) (aCons (fLst aNil) (aCons (fC (.str [111, 110, 101])) aNil)))) (aCons (fTup (aCons (fC (.str [117])) (aCons (fLst (aCons (fC (.str [116])) (aCons (fC (.str [103])) aNil))) (aCons (fC (.str [116, 119, 111])) aNil)))) aNil))) (aCons (fLst (aCons (fC (.str [117])) aNil)) (aCons (fLst (aCons (fLst (aCons (fC (.str [116])) aNil)) (aCons (fLst (aCons (fC (.str [117])) aNil)) aNil))) aNil)))) aNil)))) (sSeq (sSet false 1 (fBin gAdd (fVar 1) (fLst (aCons (fTup (aCons (fLst (aCons (fTup (aCons (fC (.str [116])) (aCons (fLst aNil) (aCons (fC (.str [111, 110, 101])) aNil)))) (aCons (fTup (aCons (fC (.str [117])) (aCons (fLst (aCons (fC (.str [116])) aNil)) (aCons (fC (.str [116, 119, 111])) aNil)))) (aCons (fTup (aCons (fC (.str [118])) (aCons (fLst aNil) (aCons (fC (.str [116, 119, 111])) aNil)))) aNil)))) (aCons (fLst (aCons (fC (.str [117])) aNil)) (aCons (fLst (aCons (fLst (aCons (fC (.str [116])) aNil)) (aCons (fLst (aCons (fC (.str [117])) aNil)) (aCons (fLst (aCons (fC (.str [118])) aNil)) aNil)))) aNil)))) aNil)))) (sSeq (sSet false 1 (fBin gAdd (fVar 1) (fLst (aCons (fTup (aCons (fLst (aCons (fTup (aCons (fC (.str [97])) (aCons (fLst aNil) (aCons (fC (.str [114, 101, 58, 32, 120])) aNil)))) (aCons (fTup (aCons (fC (.str [98])) (aCons (fLst aNil) (aCons (fC (.str [120])) aNil)))) aNil))) (aCons (fLst aNil) (aCons (fLst (aCons (fLst (aCons (fC (.str [97])) (aCons (fC (.str [98])) aNil))) aNil)) aNil)))) aNil)))) (sSeq (sSet false 1 (fBin gAdd (fVar 1) (fLst (aCons (fTup (aCons (fLst (aCons (fTup (aCons (fC (.str [97])) (aCons (fLst aNil) (aCons (fC (.str [114, 101, 58])) aNil)))) (aCons (fTup (aCons (fC (.str [98])) (aCons (fLst aNil) (aCons (fC (.str [])) aNil)))) aNil))) (aCons (fLst aNil) (aCons (fLst (aCons (fLst (aCons (fC (.str [97])) aNil)) (aCons (fLst (aCons (fC (.str [98])) aNil)) aNil))) aNil)))) aNil)))) (sSeq (sSet false 2 (fLst (aCons (fTup (aCons (fC (.str [97])) (aCons (fLst aNil) (aCons (fC (.str [120])) aNil)))) (aCons (fTup (aCons (fC (.str [98])) (aCons (fLst (aCons (fC (.str [97])) aNil)) (aCons (fC (.str [114, 101, 58, 120])) aNil)))) (aCons (fTup (aCons (fC (.str [99])) (aCons (fLst (aCons (fC (.str [98])) (aCons (fC (.str [103])) aNil))) (aCons (fC (.str [121])) aNil)))) (aCons (fTup (aCons (fC (.str [100])) (aCons (fLst (aCons (fC (.str [103])) aNil)) (aCons (fC (.str [120])) aNil)))) aNil)))))) (sSeq (sSet false 1 (fBin gAdd (fVar 1) (fLst (aCons (fTup (aCons (fVar 2) (aCons (fLst (aCons (fC (.str [99])) aNil)) (aCons (fLst (aCons (fLst (aCons (fC (.str [97])) (aCons (fC (.str [98])) (aCons (fC (.str [100])) aNil)))) (aCons (fLst (aCons (fC (.str [99])) aNil)) aNil))) aNil)))) aNil)))) (sSeq (sFor (.many [2, 3, 4]) (iOf (fVar 1)) b__law_talks_right_v2_1) (sSeq (sSet false 2 (fCall 2 c__law_turned (aCons (fBin gSubs (fBin gSubs (fVar 1) (fC (.int 0))) (fC (.int 0))) (aCons (fVar 0) aNil)))) (sSeq (sIf (tOr' (tNot' (tOf (fMet [115, 104, 111, 119, 115] 4 [([84, 111, 103, 101, 116, 104, 101, 114], c_Together_shows), ([65, 112, 97, 114, 116], c_Apart_shows)] (fMake [84, 111, 103, 101, 116, 104, 101, 114] 1 i_Together___init__ (aCons (fLst (aCons (fC (.str [97])) (aCons (fC (.str [103])) (aCons (fC (.str [98])) aNil)))) aNil)) (aCons (fVar 2) (aCons (fC (.str [97])) (aCons (fC (.str [98])) aNil)))))) (tOf (fMet [115, 104, 111, 119, 115] 4 [([84, 111, 103, 101, 116, 104, 101, 114], c_Together_shows), ([65, 112, 97, 114, 116], c_Apart_shows)] (fMake [84, 111, 103, 101, 116, 104, 101, 114] 1 i_Together___init__ (aCons (fLst (aCons (fC (.str [97])) (aCons (fC (.str [98])) aNil))) aNil)) (aCons (fVar 2) (aCons (fC (.str [97])) (aCons (fC (.str [98])) aNil)))))) (sRet (fC (.bl false))) sNil) (sSeq (sIf (tOr' (tNot' (tOf (fMet [115, 104, 111, 119, 115] 4 [([84, 111, 103, 101, 116, 104, 101, 114], c_Together_shows), ([65, 112, 97, 114, 116], c_Apart_shows)] (fMake [84, 111, 103, 101, 116, 104, 101, 114] 1 i_Together___init__ (aCons (fLst (aCons (fC (.str [97])) aNil)) aNil)) (aCons (fVar 2) (aCons (fC (.str [97])) (aCons (fC (.str [97])) aNil)))))) (tOf (fMet [115, 104, 111, 119, 115] 4 [([84, 111, 103, 101, 116, 104, 101, 114], c_Together_shows), ([65, 112, 97, 114, 116], c_Apart_shows)] (fMake [84, 111, 103, 101, 116, 104, 101, 114] 1 i_Together___init__ (aCons (fLst (aCons (fC (.str [97])) (aCons (fC (.str [97])) aNil))) aNil)) (aCons (fVar 2) (aCons (fC (.str [97])) (aCons (fC (.str [97])) aNil)))))) (sRet (fC (.bl false))) sNil) (sSeq (sSet false 2 (fCall 2 c__law_turned (aCons (fBin gSubs (fBin gSubs (fVar 1) (fC (.int 3))) (fC (.int 0))) (aCons (fVar 0) aNil)))) (sSeq (sIf (tOr' (tNot' (tOf (fMet [115, 104, 111, 119, 115] 4 [([84, 111, 103, 101, 116, 104, 101, 114], c_Together_shows), ([65, 112, 97, 114, 116], c_Apart_shows)] (fMake [84, 111, 103, 101, 116, 104, 101, 114] 1 i_Together___init__ (aCons (fLst (aCons (fC (.str [97])) (aCons (fC (.str [98])) aNil))) aNil)) (aCons (fVar 2) (aCons (fC (.str [97])) (aCons (fC (.str [98])) aNil)))))) (tOf (fMet [115, 104, 111, 119, 115] 4 [([84, 111, 103, 101, 116, 104, 101, 114], c_Together_shows), ([65, 112, 97, 114, 116], c_Apart_shows)] (fMake [65, 112, 97, 114, 116] 1 i_Apart___init__ (aCons (fLst (aCons (fC (.str [97])) aNil)) aNil)) (aCons (fVar 2) (aCons (fC (.str [97])) (aCons (fC (.str [98])) aNil)))))) (sRet (fC (.bl false))) sNil) (sSeq (sSet false 2 (fCall 2 c__law_turned (aCons (fBin gSubs (fBin gSubs (fVar 1) (fC (.int 1))) (fC (.int 0))) (aCons (fVar 0) aNil)))) (sSeq (sIf (tOr' (tOf (fMet [115, 104, 111, 119, 115] 4 [([84, 111, 103, 101, 116, 104, 101, 114], c_Together_shows), ([65, 112, 97, 114, 116], c_Apart_shows)] (fMake [65, 112, 97, 114, 116] 1 i_Apart___init__ (aCons (fLst (aCons (fC (.str [116])) aNil)) aNil)) (aCons (fVar 2) (aCons (fC (.str [116])) (aCons (fC (.str [117])) aNil))))) (tNot' (tOf (fMet [115, 104, 111, 119, 115] 4 [([84, 111, 103, 101, 116, 104, 101, 114], c_Together_shows), ([65, 112, 97, 114, 116], c_Apart_shows)] (fMake [65, 112, 97, 114, 116] 1 i_Apart___init__ (aCons (fLst (aCons (fC (.str [103])) (aCons (fC (.str [116])) aNil))) aNil)) (aCons (fVar 2) (aCons (fC (.str [116])) (aCons (fC (.str [117])) aNil))))))) (sRet (fC (.bl false))) sNil) (sSeq (sIf (tOf (fMet [115, 104, 111, 119, 115] 4 [([84, 111, 103, 101, 116, 104, 101, 114], c_Together_shows), ([65, 112, 97, 114, 116], c_Apart_shows)] (fMake [65, 112, 97, 114, 116] 1 i_Apart___init__ (aCons (fLst (aCons (fC (.str [103])) (aCons (fC (.str [116])) (aCons (fC (.str [117])) aNil)))) aNil)) (aCons (fVar 2) (aCons (fC (.str [116])) (aCons (fC (.str [117])) aNil))))) (sRet (fC (.bl false))) sNil) (sRet (fAnd (fOne (gIsi noAt (ownL [([84, 111, 103, 101, 116, 104, 101, 114], false), ([65, 112, 97, 114, 116], true), ([70, 111, 114, 101, 115, 116], false), ([87, 114, 111, 110, 103], false), ([68, 101, 115, 107], false)])) (fCall 3 c_judged (aCons (fVar 2) (aCons (fC (.str [116])) (aCons (fC (.str [117])) aNil))))) (fMet [115, 104, 111, 119, 115] 4 [([84, 111, 103, 101, 116, 104, 101, 114], c_Together_shows), ([65, 112, 97, 114, 116], c_Apart_shows)] (fMake [65, 112, 97, 114, 116] 1 i_Apart___init__ (aCons (fLst (aCons (fC (.str [117])) aNil)) aNil)) (aCons (fVar 2) (aCons (fC (.str [117])) (aCons (fC (.str [116])) aNil)))))))))))))))))))))
def c__law_talks_right_v2 : Con := runF 5 1 g__law_talks_right_v2
def b__law_rows_right_v4_1 : Sto → Res Fl := sIf (tOf (fBin gNe (fCall 1 c_drawn (aCons (fIf (tOf (fBin gNe (fVar 2) (fLst aNil))) (fCall 2 c__law_turned (aCons (fVar 2) (aCons (fVar 0) aNil))) (fLst aNil)) aNil)) (fVar 3))) (sRet (fC (.bl false))) sNil
def b__law_rows_right_v4_2 : Sto → Res Fl := sSeq (sSet false 6 (fCall 1 c_read (aCons (fVar 3) aNil))) (sIf (tOr' (tNot' (tOf (fOne (gIsi noAt (ownL [([84, 111, 103, 101, 116, 104, 101, 114], false), ([65, 112, 97, 114, 116], false), ([70, 111, 114, 101, 115, 116], false), ([87, 114, 111, 110, 103], true), ([68, 101, 115, 107], false)])) (fVar 6)))) (tOf (fBin gNe (fOne (gAtt [114, 111, 119] [[87, 114, 111, 110, 103]]) (fVar 6)) (fVar 5)))) (sRet (fC (.bl false))) sNil)
/-- _law_rows_right(_law_by); slots _law_by, _law_cases, _law_letters, _law_rows, _law_wrong, _law_at, _law_found, _law_due -/
def g__law_rows_right_v4 : Sto → Res Fl := sSeq (sSet false 1 (fLst (aCons (fTup (aCons (fLst (aCons (fTup (aCons (fC (.str [97])) (aCons (fLst (aCons (fC (.str [103, 97])) (aCons (fC (.str [103, 98])) aNil))) (aCons (fC (.str [])) aNil)))) (aCons (fTup (aCons (fC (.str [98])) (aCons (fLst (aCons (fC (.str [103, 97])) (aCons (fC (.str [103, 98])) aNil))) (aCons (fC (.str [])) aNil)))) aNil))) (aCons (fLst (aCons (fC (.str [40, 103, 98, 41])) (aCons (fC (.str [32, 32, 97])) (aCons (fC (.str [32, 32, 98])) aNil)))) aNil))) aNil))) (sSeq (sSet false 1 (fBin gAdd (fVar 1) (fLst (aCons (fTup (aCons (fLst (aCons (fTup (aCons (fC (.str [109])) (aCons (fLst (aCons (fC (.str [122])) aNil)) (aCons (fC (.str [])) aNil)))) (aCons (fTup (aCons (fC (.str [110])) (aCons (fLst aNil) (aCons (fC (.str [])) aNil)))) aNil))) (aCons (fLst (aCons (fC (.str [109])) (aCons (fC (.str [110])) aNil))) aNil))) aNil)))) (sSeq (sSet false 1 (fBin gAdd (fVar 1) (fLst (aCons (fTup (aCons (fLst (aCons (fTup (aCons (fC (.str [99])) (aCons (fLst (aCons (fC (.str [97])) (aCons (fC (.str [103])) aNil))) (aCons (fC (.str [])) aNil)))) (aCons (fTup (aCons (fC (.str [100])) (aCons (fLst (aCons (fC (.str [97])) (aCons (fC (.str [104])) aNil))) (aCons (fC (.str [])) aNil)))) aNil))) (aCons (fLst (aCons (fC (.str [40, 97, 41])) (aCons (fC (.str [32, 32, 40, 103, 41])) (aCons (fC (.str [32, 32, 32, 32, 99])) (aCons (fC (.str [32, 32, 40, 104, 41])) (aCons (fC (.str [32, 32, 32, 32, 100])) aNil)))))) aNil))) aNil)))) (sSeq (sSet false 1 (fBin gAdd (fVar 1) (fLst (aCons (fTup (aCons (fLst aNil) (aCons (fLst aNil) aNil))) aNil)))) (sSeq (sSet false 1 (fBin gAdd (fVar 1) (fLst (aCons (fTup (aCons (fLst (aCons (fTup (aCons (fC (.str [122])) (aCons (fLst aNil) (aCons (fC (.str [])) aNil)))) (aCons (fTup (aCons (fC (.str [121])) (aCons (fLst (aCons (fC (.str [120])) (aCons (fC (.str [122])) aNil))) (aCons (fC (.str [])) aNil)))) aNil))) (aCons (fLst (aCons (fC (.str [122])) (aCons (fC (.str [32, 32, 121])) aNil))) aNil))) aNil)))) (sSeq (sFor (.many [2, 3]) (iOf (fVar 1)) b__law_rows_right_v4_1) (sSeq (sSet false 4 (fLst (aCons (fTup (aCons (fLst (aCons (fC (.str [97])) (aCons (fC (.str [32, 32, 32, 32, 98])) aNil))) (aCons (fC (.int 1)) aNil))) (aCons (fTup (aCons (fLst (aCons (fC (.str [97])) (aCons (fC (.str [32, 98])) aNil))) (aCons (fC (.int 1)) aNil))) (aCons (fTup (aCons (fLst (aCons (fC (.str [97])) (aCons (fC (.str [97])) aNil))) (aCons (fC (.int 1)) aNil))) (aCons (fTup (aCons (fLst (aCons (fC (.str [40, 41])) aNil)) (aCons (fC (.int 0)) aNil))) (aCons (fTup (aCons (fLst (aCons (fC (.str [97, 98, 99, 100])) aNil)) (aCons (fC (.int 0)) aNil))) aNil))))))) (sSeq (sSet false 4 (fBin gAdd (fVar 4) (fLst (aCons (fTup (aCons (fLst (aCons (fC (.str [65])) aNil)) (aCons (fC (.int 0)) aNil))) (aCons (fTup (aCons (fLst (aCons (fC (.str [97, 32])) aNil)) (aCons (fC (.int 0)) aNil))) aNil))))) (sSeq (sFor (.many [3, 5]) (iOf (fVar 4)) b__law_rows_right_v4_2) (sSeq (sSet false 6 (fCall 1 c_read (aCons (fLst (aCons (fC (.str [97])) (aCons (fC (.str [32, 32, 40, 98, 41])) (aCons (fC (.str [32, 32, 32, 32, 99])) (aCons (fC (.str [32, 32, 100])) (aCons (fC (.str [101])) aNil)))))) aNil))) (sSeq (sSet false 7 (fLst (aCons (fTup (aCons (fC (.str [97])) (aCons (fC (.bl false)) (aCons (fC (.str [])) aNil)))) (aCons (fTup (aCons (fC (.str [98])) (aCons (fC (.bl true)) (aCons (fC (.str [97])) aNil)))) (aCons (fTup (aCons (fC (.str [99])) (aCons (fC (.bl false)) (aCons (fC (.str [98])) aNil)))) (aCons (fTup (aCons (fC (.str [100])) (aCons (fC (.bl false)) (aCons (fC (.str [97])) aNil)))) (aCons (fTup (aCons (fC (.str [101])) (aCons (fC (.bl false)) (aCons (fC (.str [])) aNil)))) aNil))))))) (sSeq (sIf (tOr' (tNot' (tOf (fOne (gIsi noAt (ownL [([84, 111, 103, 101, 116, 104, 101, 114], false), ([65, 112, 97, 114, 116], false), ([70, 111, 114, 101, 115, 116], true), ([87, 114, 111, 110, 103], false), ([68, 101, 115, 107], false)])) (fVar 6)))) (tOr' (tOf (fBin gNe (fOne (gAtt [116, 105, 101, 115] [[70, 111, 114, 101, 115, 116]]) (fVar 6)) (fVar 7))) (tOf (fBin gNe (fOne (gAtt [116, 105, 101, 115] [[70, 111, 114, 101, 115, 116]]) (fCall 1 c_read (aCons (fLst aNil) aNil))) (fLst aNil))))) (sRet (fC (.bl false))) sNil) (sRet (fOne (gIsi noAt (ownL [([84, 111, 103, 101, 116, 104, 101, 114], false), ([65, 112, 97, 114, 116], false), ([70, 111, 114, 101, 115, 116], false), ([87, 114, 111, 110, 103], true), ([68, 101, 115, 107], false)])) (fCall 1 c_read (aCons (fLst (aCons (fC (.str [32, 32, 97])) aNil)) aNil)))))))))))))))
def c__law_rows_right_v4 : Con := runF 8 1 g__law_rows_right_v4
/-- _law_desk_right(); slots _law_desk, _law_told, _law_due -/
def g__law_desk_right_v2 : Sto → Res Fl := sSeq (sSet false 0 (fMake [68, 101, 115, 107] 0 i_Desk___init__ aNil)) (sSeq (sXSet 1 (fXLst (xCons (fMM [99, 111, 109, 101] 0 2 [68, 101, 115, 107] [108, 121, 105, 110, 103] c_Desk_come (aCons (fTup (aCons (fC (.str [97])) (aCons (fLst (aCons (fC (.str [103])) aNil)) (aCons (fC (.str [])) aNil)))) aNil)) (xCons (fMM [99, 111, 109, 101] 0 2 [68, 101, 115, 107] [108, 121, 105, 110, 103] c_Desk_come (aCons (fTup (aCons (fC (.str [103])) (aCons (fLst aNil) (aCons (fC (.str [])) aNil)))) aNil)) (xCons (fMM [103, 111] 0 2 [68, 101, 115, 107] [108, 121, 105, 110, 103] c_Desk_go (aCons (fC (.str [103])) aNil)) (xCons (fMM [103, 111] 0 2 [68, 101, 115, 107] [108, 121, 105, 110, 103] c_Desk_go (aCons (fC (.str [97])) aNil)) (xNil))))))) (sSeq (sXCat 1 (xCons (fMM [99, 111, 109, 101] 0 2 [68, 101, 115, 107] [108, 121, 105, 110, 103] c_Desk_come (aCons (fTup (aCons (fC (.str [97])) (aCons (fLst (aCons (fC (.str [103])) aNil)) (aCons (fC (.str [120])) aNil)))) aNil)) (xNil))) (sSeq (sSet false 2 (fLst (aCons (fLst (aCons (fTup (aCons (fC (.str [97])) (aCons (fC .non) (aCons (fC (.str [103])) aNil)))) (aCons (fTup (aCons (fC (.str [103])) (aCons (fC .non) (aCons (fC (.str [])) aNil)))) aNil))) (aCons (fLst aNil) (aCons (fLst aNil) (aCons (fLst (aCons (fTup (aCons (fC (.str [97])) (aCons (fC (.str [103])) (aCons (fC .non) aNil)))) (aCons (fTup (aCons (fC (.str [103])) (aCons (fC (.str [])) (aCons (fC .non) aNil)))) aNil))) aNil)))))) (sSeq (sSet false 2 (fBin gAdd (fVar 2) (fLst (aCons (fLst (aCons (fTup (aCons (fC (.str [97])) (aCons (fC .non) (aCons (fC (.str [103])) aNil)))) (aCons (fTup (aCons (fC (.str [103])) (aCons (fC .non) (aCons (fC (.str [])) aNil)))) aNil))) aNil)))) (sSeq (sXIf (tXOr (tXE (tOf (fBin gNe (fVar 1) (fVar 2)))) (tXOf (fXCmp true (fMM [99, 111, 109, 101] 0 2 [68, 101, 115, 107] [108, 121, 105, 110, 103] c_Desk_come (aCons (fTup (aCons (fC (.str [103])) (aCons (fLst (aCons (fC (.str [104])) aNil)) (aCons (fC (.str [])) aNil)))) aNil)) (fLst (aCons (fTup (aCons (fC (.str [103])) (aCons (fC (.str [])) (aCons (fC (.str [104])) aNil)))) (aCons (fTup (aCons (fC (.str [104])) (aCons (fC .non) (aCons (fC (.str [])) aNil)))) aNil)))))) (sRet (fC (.bl false))) (sNil)) (sRet (fAnd (fBin gEq (fMet [108, 101, 116, 116, 101, 114, 115] 1 [([68, 101, 115, 107], c_Desk_letters)] (fVar 0) aNil) (fLst (aCons (fTup (aCons (fC (.str [97])) (aCons (fLst (aCons (fC (.str [103])) aNil)) (aCons (fC (.str [120])) aNil)))) (aCons (fTup (aCons (fC (.str [103])) (aCons (fLst (aCons (fC (.str [104])) aNil)) (aCons (fC (.str [])) aNil)))) aNil)))) (fBin gEq (fMet [100, 114, 97, 119, 110] 1 [([68, 101, 115, 107], c_Desk_drawn)] (fVar 0) aNil) (fLst (aCons (fC (.str [103])) (aCons (fC (.str [32, 32, 97])) aNil)))))))))))
def c__law_desk_right_v2 : Con := runF 3 0 g__law_desk_right_v2
/-- law(_law_script); slots _law_script, _law_by -/
def g_law : Sto → Res Fl := sSeq (sSet false 1 (fBin gMod (fOne gAbs (fOne gSum (fSl (fVar 0) oNone (oSome (fC (.int 3)))))) (fC (.int 60)))) (sSeq (sIf (tOr' (tNot' (tOf (fCall 1 c__law_parents_right (aCons (fVar 1) aNil)))) (tOr' (tNot' (tOf (fCall 0 c__law_titles_right aNil))) (tNot' (tOf (fCall 1 c__law_talks_right_v2 (aCons (fVar 1) aNil)))))) (sRet (fC (.bl false))) sNil) (sRet (fAnd (fCall 1 c__law_rows_right_v4 (aCons (fVar 1) aNil)) (fCall 0 c__law_desk_right_v2 aNil))))
def c_law : Con := runF 2 1 g_law
end PV

namespace PV
open PySem PySem.Spec L2
def ltT (a b : Tx) : Bool := decide (a < b)
theorem ltT_irrefl (a : Tx) : ltT a a = false := decide_eq_false (List.lt_irrefl a)
theorem ltT_tot : ∀ {a b : Tx}, ltT a b = false → ltT b a = false → a = b
  | [], [], _, _ => rfl
  | [], _ :: _, h, _ => absurd (List.nil_lt_cons _ _) (of_decide_eq_false h)
  | _ :: _, [], _, h => absurd (List.nil_lt_cons _ _) (of_decide_eq_false h)
  | x :: a, y :: b, h, h2 => by
    have h := of_decide_eq_false h
    have h2 := of_decide_eq_false h2
    rw [List.cons_lt_cons_iff] at h h2
    have e : x = y := by
      by_cases h3 : x < y
      · exact absurd (.inl h3) h
      · by_cases h4 : y < x
        · exact absurd (.inl h4) h2
        · omega
    subst e
    rw [ltT_tot (a := a) (b := b) (decide_eq_false fun z => h (.inr ⟨rfl, z⟩)) (decide_eq_false fun z => h2 (.inr ⟨rfl, z⟩))]
section
variable {α : Type}
def insB (lt : α → α → Bool) (y : α) : List α → List α
  | [] => [y]
  | x :: l => if lt y x then y :: x :: l else x :: insB lt y l
def sortB (lt : α → α → Bool) (xs : List α) : List α := xs.foldl (fun l y => insB lt y l) []
theorem insB_perm (lt : α → α → Bool) (y : α) : ∀ l : List α, (insB lt y l).Perm (y :: l)
  | [] => List.Perm.refl _
  | x :: l => by
    unfold insB
    split
    · exact List.Perm.refl _
    · exact ((insB_perm lt y l).cons x).trans (List.Perm.swap y x l)
theorem insK_map {e : α → Dat} {lt : α → α → Bool} {y : α} : ∀ {l : List α}, (∀ x ∈ l, ltK (e y) (e x) = lt y x) → insK (e y) (l.map e) = (insB lt y l).map e
  | [], _ => rfl
  | x :: l, h => by
    rw [List.map_cons]
    unfold insK insB
    rw [h x List.mem_cons_self]
    split
    · rfl
    · rw [List.map_cons, insK_map fun z hz => h z (List.mem_cons_of_mem _ hz)]
theorem foldK_map {e : α → Dat} {lt : α → α → Bool} : ∀ {ds l : List α}, (∀ y ∈ ds, ∀ x ∈ l ++ ds, ltK (e y) (e x) = lt y x) → (ds.map e).foldl (fun l y => insK y l) (l.map e) = (ds.foldl (fun l y => insB lt y l) l).map e
  | [], _, _ => rfl
  | d :: ds, l, h => by
    rw [List.map_cons, List.foldl_cons, List.foldl_cons, insK_map (lt := lt) fun x hx => h d List.mem_cons_self x (List.mem_append_left _ hx)]
    refine foldK_map fun y hy x hx => h y (List.mem_cons_of_mem _ hy) x ?_
    rcases List.mem_append.mp hx with q | q
    · rcases List.mem_cons.mp ((insB_perm lt d l).mem_iff.mp q) with q | q
      · exact List.mem_append_right _ (by simp [q])
      · exact List.mem_append_left _ q
    · exact List.mem_append_right _ (List.mem_cons_of_mem _ q)
theorem sortK_map {e : α → Dat} {lt : α → α → Bool} {xs : List α} (h : ∀ y ∈ xs, ∀ x ∈ xs, ltK (e y) (e x) = lt y x) : sortK (xs.map e) = (sortB lt xs).map e :=
  foldK_map (l := []) (by simpa using h)
/-- by a key -/
def byK (k : α → Tx) (a b : α) : Bool := ltT (k a) (k b)
end
def sortT (xs : List Tx) : List Tx := sortB ltT xs
theorem sortK_str (xs : List Tx) : sortK (xs.map .str) = (sortT xs).map .str := sortK_map fun y _ x _ => ltK_str y x
theorem toPDs_strs : ∀ xs : List Tx, toPDs (xs.map .str) = some (xs.map fun x => PyData.str (mkS x))
  | [] => rfl
  | x :: xs => by
    rw [List.map_cons]
    simp only [toPDs, toPD, toPDs_strs xs, List.map_cons]
theorem depth_strs : ∀ xs : List Tx, PyData.depthAll (xs.map fun x => PyData.str (mkS x)) = 0
  | [] => rfl
  | x :: xs => by
    rw [List.map_cons]
    simp only [PyData.depthAll, PyData.depth, depth_strs xs]
    rfl
theorem all_strs : ∀ xs : List Tx, (xs.map Dat.str).all isStrD = true
  | [] => rfl
  | x :: xs => by
    rw [List.map_cons, List.all_cons, all_strs xs]
    rfl
theorem sortOk_strs {xs : List Tx} (h : xs.length ≤ 1000000) : sortOk (xs.map .str) = true := by
  unfold sortOk
  simp only [toPDs_strs, all_strs, depth_strs, Bool.true_or, Bool.true_and, List.length_map]
  simp [h]
theorem e_sorted_s {xs : List Tx} {rt : Bool} {s : List Nat} {m : Option (List Nat)} (h : xs.length ≤ 1000000) : gSorted ⟨.lst (xs.map .str), rt, s, m⟩ = .ok ⟨.lst ((sortT xs).map .str), true, s, some []⟩ := by
  show (if sortOk (xs.map .str) = true then Res.ok (rNewL (sortK (xs.map .str)) s) else .no) = _
  rw [sortOk_strs h, if_pos rfl, sortK_str, e_newL (flat_strs _)]
theorem e_list_d {ks : List Tx} {ds : List Dat} {rt : Bool} {s : List Nat} {m : Option (List Nat)} : gList ⟨.dic ks ds, rt, s, m⟩ = .ok ⟨.lst (ks.map .str), true, [], some []⟩ := by
  show Res.ok (rNewL (ks.map Dat.str) []) = _
  rw [e_newL (flat_strs _)]
/-- tuples whose first parts are unlike texts -/
theorem ltK_tup {a b : Tx} {r q : List Dat} {p1 p2 : List PyData} (h1 : toPDs r = some p1) (h2 : toPDs q = some p2) (n : a ≠ b) : ltK (.tup (.str a :: r)) (.tup (.str b :: q)) = ltT a b := by
  have e1 : keyD (.tup (.str a :: r)) = PySem.W.keyToksAll (PyData.str (mkS a) :: p1) := by
    unfold keyD
    simp only [toPD, toPDs, h1, Option.map_some]
    rfl
  have e2 : keyD (.tup (.str b :: q)) = PySem.W.keyToksAll (PyData.str (mkS b) :: p2) := by
    unfold keyD
    simp only [toPD, toPDs, h2, Option.map_some]
    rfl
  have hn : PyData.eqv (.str (mkS a)) (.str (mkS b)) = false := by
    show (mkS a == mkS b) = false
    rw [beq_eq_false_iff_ne]
    exact fun z => n (mkS_inj z)
  unfold ltK
  rw [e1, e2, PySem.W.dataLt_all_no rfl hn]
  exact (ltK_str a b)
theorem ltK_irrefl (d : Dat) : ltK d d = false := PyProof.Rows.lex_irrefl (O := PyProof.Rows.itemOrd) _
section
variable {α : Type} {e : α → Dat} {k : α → Tx} {r : α → List Dat}
theorem inj_of_nodup {k : α → Tx} : ∀ {xs : List α}, (xs.map k).Nodup → ∀ x ∈ xs, ∀ y ∈ xs, k x = k y → x = y := fun h => map_inj_nodup h
theorem sortK_tup {xs : List α} (he : ∀ x ∈ xs, e x = .tup (.str (k x) :: r x)) (hp : ∀ x ∈ xs, ∃ p, toPDs (r x) = some p) (n : (xs.map k).Nodup) : sortK (xs.map e) = (sortB (byK k) xs).map e := by
  refine sortK_map fun y hy x hx => ?_
  rw [he y hy, he x hx]
  obtain ⟨p1, h1⟩ := hp y hy
  obtain ⟨p2, h2⟩ := hp x hx
  by_cases h : k y = k x
  · have := inj_of_nodup n y hy x hx h
    subst this
    rw [ltK_irrefl]
    exact (ltT_irrefl _).symm
  · exact ltK_tup h1 h2 h
theorem keyD_tup_ne {a b : Tx} {x y : List Dat} {p1 p2 : List PyData} (h1 : toPDs x = some p1) (h2 : toPDs y = some p2) (n : a ≠ b) : keyD (.tup (.str a :: x)) ≠ keyD (.tup (.str b :: y)) := by
  intro z
  have e1 := ltK_tup h1 h2 n
  have e2 := ltK_tup h2 h1 n.symm
  unfold ltK at e1 e2
  rw [z, PyProof.Rows.lex_irrefl (O := PyProof.Rows.itemOrd)] at e1
  rw [z, PyProof.Rows.lex_irrefl (O := PyProof.Rows.itemOrd)] at e2
  exact n (ltT_tot e1.symm e2.symm)
theorem toPDs_map {P : α → PyData} : ∀ {xs : List α}, (∀ x ∈ xs, toPD (e x) = some (P x)) → toPDs (xs.map e) = some (xs.map P)
  | [], _ => rfl
  | x :: xs, h => by
    rw [List.map_cons]
    simp only [toPDs, h x List.mem_cons_self, toPDs_map fun y hy => h y (List.mem_cons_of_mem _ hy), List.map_cons]
theorem depthAll_le {P : α → PyData} {n : Nat} : ∀ {xs : List α}, (∀ x ∈ xs, (P x).depth ≤ n) → PyData.depthAll (xs.map P) ≤ n
  | [], _ => Nat.zero_le _
  | x :: xs, h => by
    rw [List.map_cons]
    simp only [PyData.depthAll]
    exact Nat.max_le.mpr ⟨h x List.mem_cons_self, depthAll_le fun y hy => h y (List.mem_cons_of_mem _ hy)⟩
/-- tuples of one kind, their first parts unlike texts -/
theorem sortOk_tup {P : α → List PyData} {xs : List α} (hl : xs.length ≤ 1000000) (he : ∀ x ∈ xs, e x = .tup (.str (k x) :: r x)) (hp : ∀ x ∈ xs, toPDs (r x) = some (P x)) (n : (xs.map k).Nodup)
    (ha : ∀ x ∈ xs, ∀ y ∈ xs, PySem.W.alikeAll (P x) (P y) = true) (hd : ∀ x ∈ xs, PyData.depthAll (P x) ≤ 10) : sortOk (xs.map e) = true := by
  have h1 : toPDs (xs.map e) = some (xs.map fun x => PyData.tuple (.str (mkS (k x)) :: P x)) := toPDs_map fun x hx => by
    rw [he x hx]
    simp only [toPD, toPDs, hp x hx, Option.map_some]
  have h2 : (xs.map e).all isTupD = true := by
    rw [List.all_eq_true]
    intro d hd
    obtain ⟨x, hx, rfl⟩ := List.mem_map.mp hd
    rw [he x hx]
    rfl
  have h3 : ((xs.map e).map keyD).Nodup := by
    rw [List.map_map]
    have : ∀ {ys : List α}, (∀ y ∈ ys, y ∈ xs) → (ys.map k).Nodup → (ys.map (keyD ∘ e)).Nodup := by
      intro ys
      induction ys with
      | nil => exact fun _ _ => List.Pairwise.nil
      | cons y ys ih =>
        intro hs hn
        rw [List.map_cons] at hn ⊢
        obtain ⟨q1, q2⟩ := List.nodup_cons.mp hn
        refine List.nodup_cons.mpr ⟨fun z => ?_, ih (fun z hz => hs z (List.mem_cons_of_mem _ hz)) q2⟩
        obtain ⟨w, hw, ew⟩ := List.mem_map.mp z
        have hy := hs y List.mem_cons_self
        have hw' := hs w (List.mem_cons_of_mem _ hw)
        have ne : k w ≠ k y := fun z => q1 (by rw [← z]; exact List.mem_map_of_mem hw)
        simp only [Function.comp] at ew
        rw [he w hw', he y hy] at ew
        exact keyD_tup_ne (hp w hw') (hp y hy) ne ew
    exact this (fun _ z => z) n
  have h4 : ((xs.map fun x => PyData.tuple (.str (mkS (k x)) :: P x)).all fun p => (xs.map fun x => PyData.tuple (.str (mkS (k x)) :: P x)).all fun q => PySem.W.alike p q) = true := by
    rw [List.all_eq_true]
    intro p hp
    rw [List.all_eq_true]
    intro q hq
    obtain ⟨x, hx, rfl⟩ := List.mem_map.mp hp
    obtain ⟨y, hy, rfl⟩ := List.mem_map.mp hq
    simp only [PySem.W.alike, PySem.W.alikeAll, ha x hx y hy, Bool.and_self]
  have h5 : PyData.depthAll (xs.map fun x => PyData.tuple (.str (mkS (k x)) :: P x)) ≤ 20 := by
    refine Nat.le_trans (depthAll_le (n := 11) fun x hx => ?_) (by decide)
    have := hd x hx
    simp only [PyData.depth, PyData.depthAll]
    omega
  unfold sortOk
  simp only [h1, h2, h4, decide_eq_true h3, Bool.true_and, Bool.and_true, Bool.or_true, List.length_map]
  simp [h5, hl]
theorem e_sorted_t {P : α → List PyData} {xs : List α} {rt : Bool} {s : List Nat} {m : Option (List Nat)} (hl : xs.length ≤ 1000000) (he : ∀ x ∈ xs, e x = .tup (.str (k x) :: r x)) (hp : ∀ x ∈ xs, toPDs (r x) = some (P x)) (n : (xs.map k).Nodup)
    (ha : ∀ x ∈ xs, ∀ y ∈ xs, PySem.W.alikeAll (P x) (P y) = true) (hd : ∀ x ∈ xs, PyData.depthAll (P x) ≤ 10) : gSorted ⟨.lst (xs.map e), rt, s, m⟩ = .ok (rNewL ((sortB (byK k) xs).map e) s) := by
  show (if sortOk (xs.map e) = true then Res.ok (rNewL (sortK (xs.map e)) s) else .no) = _
  rw [sortOk_tup hl he hp n ha hd, if_pos rfl, sortK_tup he (fun x hx => ⟨_, hp x hx⟩) n]
end
theorem e_sortSet_s {xs : List Tx} {rt : Bool} {s : List Nat} {m : Option (List Nat)} (h : xs.length ≤ 4000) : gSortSet ⟨.lst (xs.map .str), rt, s, m⟩ = .ok ⟨.lst ((sortT (nubT xs)).map .str), true, [], some []⟩ := by
  show (match (seqOf (.lst (xs.map .str))).bind strsOf with | some ns => if ns.length ≤ 4000 then Res.ok (rNewL (sortK ((nubT ns).map .str)) []) else .no | none => .no) = _
  simp only [seqOf, Option.bind, strs_map]
  rw [if_pos h, sortK_str, e_newL (flat_strs _)]
theorem e_lenSet_s {xs : List Tx} {rt : Bool} {s : List Nat} {m : Option (List Nat)} (h : xs.length ≤ 4000) : gLenSet ⟨.lst (xs.map .str), rt, s, m⟩ = .ok ⟨.int (nubT xs).length, false, [], some []⟩ := by
  show (match (seqOf (.lst (xs.map .str))).bind strsOf with | some ns => if ns.length ≤ 4000 then Res.ok (rsF (.int (nubT ns).length)) else .no | none => .no) = _
  simp only [seqOf, Option.bind, strs_map]
  rw [if_pos h]
  rfl
def minT (x : Tx) (xs : List Tx) : Tx := xs.foldl (fun a y => if ltT y a then y else a) x
theorem minK_str : ∀ (xs : List Tx) (x : Tx), minK (.str x) (xs.map .str) = .str (minT x xs)
  | [], _ => rfl
  | y :: xs, x => by
    have e : (if ltK (.str y) (.str x) = true then Dat.str y else .str x) = .str (if ltT y x = true then y else x) := by
      rw [ltK_str]
      show (if ltT y x = true then _ else _) = _
      split <;> rfl
    show minK (if ltK (.str y) (.str x) = true then Dat.str y else .str x) (xs.map .str) = _
    rw [e, minK_str xs]
    rfl
theorem cmpOk_strs {xs : List Tx} (h : xs.length ≤ 1000000) : cmpOk (xs.map .str) = true := by
  unfold cmpOk
  simp only [toPDs_strs, all_strs, depth_strs, Bool.true_or, Bool.true_and, List.length_map, flat_strs]
  simp [h]
theorem e_min_s {x : Tx} {xs : List Tx} {rt : Bool} {s : List Nat} {m : Option (List Nat)} (h : xs.length < 1000000) : gMin ⟨.lst ((x :: xs).map .str), rt, s, m⟩ = .ok ⟨.str (minT x xs), false, [], some []⟩ := by
  show (if cmpOk ((x :: xs).map .str) = true then Res.ok (rsF (minK (.str x) (xs.map .str))) else .no) = _
  rw [cmpOk_strs (by simp only [List.length_cons]; omega), if_pos rfl, minK_str]
  rfl
def maxI (x : Int) (xs : List Int) : Int := xs.foldl (fun a y => if a < y then y else a) x
theorem ltK_int (a b : Int) : ltK (.int a) (.int b) = decide (a < b) := by
  have e1 : keyD (.int a) = [.inl a] := rfl
  have e2 : keyD (.int b) = [.inl b] := rfl
  unfold ltK
  rw [e1, e2]
  rw [PyProof.Rows.lex_cons]
  show (PyProof.Rows.itemLt (.inl a) (.inl b) || (!PyProof.Rows.itemLt (.inl b) (.inl a) && false)) = _
  rw [Bool.and_false, Bool.or_false]
  rfl
theorem maxK_int : ∀ (xs : List Int) (x : Int), maxK (.int x) (xs.map .int) = .int (maxI x xs)
  | [], _ => rfl
  | y :: xs, x => by
    have e : (if ltK (.int x) (.int y) = true then Dat.int y else .int x) = .int (if x < y then y else x) := by
      rw [ltK_int]
      by_cases h : x < y
      · rw [if_pos h, decide_eq_true h, if_pos rfl]
      · rw [if_neg h, decide_eq_false h, if_neg (by decide)]
    show maxK (if ltK (.int x) (.int y) = true then Dat.int y else .int x) (xs.map .int) = _
    rw [e, maxK_int xs]
    rfl
theorem toPDs_ints : ∀ xs : List Int, toPDs (xs.map .int) = some (xs.map PyData.int)
  | [] => rfl
  | x :: xs => by
    rw [List.map_cons]
    simp only [toPDs, toPD, toPDs_ints xs, List.map_cons]
theorem depth_ints : ∀ xs : List Int, PyData.depthAll (xs.map PyData.int) = 0
  | [] => rfl
  | x :: xs => by
    rw [List.map_cons]
    simp only [PyData.depthAll, PyData.depth, depth_ints xs]
    rfl
theorem all_ints : ∀ xs : List Int, (xs.map Dat.int).all isIntD = true
  | [] => rfl
  | x :: xs => by
    rw [List.map_cons, List.all_cons, all_ints xs]
    rfl
theorem e_max_i {x : Int} {xs : List Int} {rt : Bool} {s : List Nat} {m : Option (List Nat)} (h : xs.length < 1000000) : gMax ⟨.lst ((x :: xs).map .int), rt, s, m⟩ = .ok ⟨.int (maxI x xs), false, [], some []⟩ := by
  have hc : cmpOk ((x :: xs).map .int) = true := by
    unfold cmpOk
    simp only [toPDs_ints, all_ints, depth_ints, Bool.true_or, Bool.or_true, Bool.true_and, List.length_map, flat_ints]
    simp
    omega
  show (if cmpOk ((x :: xs).map .int) = true then Res.ok (rsF (maxK (.int x) (xs.map .int))) else .no) = _
  rw [hc, if_pos rfl, maxK_int]
  rfl
end PV

namespace PV
open PySem PySem.Spec L2
section
variable {rt rt' : Bool} {s s' : List Nat} {m m' : Option (List Nat)}
def fChain1 (g g' : Rs → Rs → Res Rs) (fb fc : Sto → Res Rs) (E : Sto) (ra : Rs) : Res Rs := (fb E).bind fun rb => (g ra rb).bind fun r => match r.d with
  | .bl true => (fc E).bind fun rc => g' rb rc
  | .bl false => .ok (rsF (.bl false))
  | _ => .no
def fChain2 (g g' : Rs → Rs → Res Rs) (fc : Sto → Res Rs) (E : Sto) (ra rb : Rs) : Res Rs := (g ra rb).bind fun r => match r.d with
  | .bl true => (fc E).bind fun rc => g' rb rc
  | .bl false => .ok (rsF (.bl false))
  | _ => .no
def fChain3 (g' : Rs → Rs → Res Rs) (fc : Sto → Res Rs) (E : Sto) (rb r : Rs) : Res Rs := match r.d with
  | .bl true => (fc E).bind fun rc => g' rb rc
  | .bl false => .ok (rsF (.bl false))
  | _ => .no
theorem e_chain {g g' : Rs → Rs → Res Rs} {fa fb fc : Sto → Res Rs} {E : Sto} : fChain g g' fa fb fc E = (fa E).bind (fChain1 g g' fb fc E) := (rfl)
theorem e_chain1 {g g' : Rs → Rs → Res Rs} {fb fc : Sto → Res Rs} {E : Sto} {ra : Rs} : fChain1 g g' fb fc E ra = (fb E).bind (fChain2 g g' fc E ra) := (rfl)
theorem e_chain2 {g g' : Rs → Rs → Res Rs} {fc : Sto → Res Rs} {E : Sto} {ra rb : Rs} : fChain2 g g' fc E ra rb = (g ra rb).bind (fChain3 g' fc E rb) := (rfl)
theorem e_chain_t {g' : Rs → Rs → Res Rs} {fc : Sto → Res Rs} {E : Sto} {rb : Rs} : fChain3 g' fc E rb ⟨.bl true, rt, s, m⟩ = (fc E).bind (g' rb) := (rfl)
theorem e_chain_f {g' : Rs → Rs → Res Rs} {fc : Sto → Res Rs} {E : Sto} {rb : Rs} : fChain3 g' fc E rb ⟨.bl false, rt, s, m⟩ = .ok ⟨.bl false, false, [], some []⟩ := (rfl)
theorem isT_of {t u : String} (h : u ∈ tyN) (hb : ¬ (t = "bool" ∨ u = "bool")) : isT t u = some (decide (u = t)) := by
  unfold isT isB
  rw [if_pos h]
  by_cases e : u = t
  · rw [if_pos e, decide_eq_true e]
  · rw [if_neg e, if_neg (fun z => hb (.inr z.1)), decide_eq_false e]
theorem e_isi_l {own : Tx → Option Bool} {x : List Dat} : gIsi (isT "list") own ⟨.lst x, rt, s, m⟩ = .ok ⟨.bl true, false, [], some []⟩ := by
  show (match isT "list" "list" with | some b => Res.ok (rsF (.bl b)) | none => .no) = _
  rw [isT_of (by decide) (by decide)]
  rfl
theorem e_isi_t {own : Tx → Option Bool} {x : List Dat} : gIsi (isT "tuple") own ⟨.tup x, rt, s, m⟩ = .ok ⟨.bl true, false, [], some []⟩ := by
  show (match isT "tuple" "tuple" with | some b => Res.ok (rsF (.bl b)) | none => .no) = _
  rw [isT_of (by decide) (by decide)]
  rfl
theorem e_isi_ss {own : Tx → Option Bool} {x : Tx} : gIsi (isT "str") own ⟨.str x, rt, s, m⟩ = .ok ⟨.bl true, false, [], some []⟩ := by
  rw [e_isi_s]
  rfl
theorem e_rv_tupF {i : Nat} {xs : List Dat} {k : Kd} (h : flatL xs = true) : rVar i (.tup xs) k = ⟨.tup xs, false, [], some []⟩ := by
  unfold rVar
  rw [if_pos (show flat (.tup xs) = true from h)]
  rfl
theorem e_rv_tupS {i : Nat} {xs : List Dat} (h : flatL xs = false) : rVar i (.tup xs) .shr = ⟨.tup xs, false, [i], none⟩ := by
  unfold rVar
  rw [if_neg (show ¬ flat (.tup xs) = true by show ¬ flatL xs = true; rw [h]; decide)]
  rfl
theorem e_rv_tupD {i : Nat} {xs : List Dat} (h : flatL xs = false) : rVar i (.tup xs) .deep = ⟨.tup xs, false, [i], some [i]⟩ := by
  unfold rVar
  rw [if_neg (show ¬ flat (.tup xs) = true by show ¬ flatL xs = true; rw [h]; decide)]
  rfl
theorem e_pick_tF {r : Rs} {xs : List Dat} (h : flatL xs = true) : pick r (.tup xs) = ⟨.tup xs, false, [], some []⟩ := by
  unfold pick
  rw [if_pos (show flat (.tup xs) = true from h)]
  rfl
theorem e_pick_tS {r : Rs} {xs : List Dat} (h : flatL xs = false) : pick r (.tup xs) = ⟨.tup xs, false, r.src, none⟩ := by
  unfold pick
  rw [if_neg (show ¬ flat (.tup xs) = true by show ¬ flatL xs = true; rw [h]; decide)]
theorem e_call_tF {rs : List Rs} {x : List Dat} {b : Bool} (h : flatL x = true) : fCall2 rs (.tup x, b) = .ok ⟨.tup x, false, [], some []⟩ := by
  show Res.ok (if flat (.tup x) = true then _ else _) = _
  rw [if_pos (show flat (.tup x) = true from h)]
  rfl
theorem e_call_lS {rs : List Rs} {x : List Dat} : fCall2 rs (.lst x, false) = .ok ⟨.lst x, false, allSrc rs, none⟩ := (rfl)
theorem e_flat0 : flatL [] = true := (rfl)
theorem e_flat_s {x : Tx} {xs : List Dat} : flatL (.str x :: xs) = flatL xs := by
  show (flat (.str x) && flatL xs) = _
  rw [show flat (.str x) = true from rfl, Bool.true_and]
theorem e_flat_i {x : Int} {xs : List Dat} : flatL (.int x :: xs) = flatL xs := by
  show (flat (.int x) && flatL xs) = _
  rw [show flat (.int x) = true from rfl, Bool.true_and]
theorem e_flat_b {x : Bool} {xs : List Dat} : flatL (.bl x :: xs) = flatL xs := by
  show (flat (.bl x) && flatL xs) = _
  rw [show flat (.bl x) = true from rfl, Bool.true_and]
theorem e_flat_n {xs : List Dat} : flatL (.non :: xs) = flatL xs := by
  show (flat .non && flatL xs) = _
  rw [show flat .non = true from rfl, Bool.true_and]
theorem e_flat_l {x xs : List Dat} : flatL (.lst x :: xs) = false := (rfl)
theorem e_newLs {xs : List Tx} {l : List Nat} : rNewL (xs.map .str) l = ⟨.lst (xs.map .str), true, l, some []⟩ := e_newL (flat_strs _)
theorem e_newLi {xs : List Int} {l : List Nat} : rNewL (xs.map .int) l = ⟨.lst (xs.map .int), true, l, some []⟩ := e_newL (flat_ints _)
theorem e_at0 {x : Dat} {xs : List Dat} : dAt (x :: xs) 0 = some x := by
  unfold dAt ixN
  rw [if_pos (by decide), if_pos (by simp only [List.length_cons]; omega)]
  rfl
theorem e_at1 {x y : Dat} {xs : List Dat} : dAt (x :: y :: xs) 1 = some y := by
  unfold dAt ixN
  rw [if_pos (by decide), if_pos (by simp only [List.length_cons]; omega)]
  rfl
theorem e_at2 {x y z : Dat} {xs : List Dat} : dAt (x :: y :: z :: xs) 2 = some z := by
  unfold dAt ixN
  rw [if_pos (by decide), if_pos (by simp only [List.length_cons]; omega)]
  rfl
theorem e_at3 {x y z w : Dat} {xs : List Dat} : dAt (x :: y :: z :: w :: xs) 3 = some w := by
  unfold dAt ixN
  rw [if_pos (by decide), if_pos (by simp only [List.length_cons]; omega)]
  rfl
theorem e_atL {xs : List Dat} (h : xs ≠ []) : dAt xs (-1) = xs.getLast? := by
  unfold dAt ixN
  have hl : 0 < xs.length := List.length_pos_iff.mpr h
  rw [if_neg (by decide), if_pos (by omega)]
  show xs[_]? = _
  rw [List.getLast?_eq_getElem?]
  congr 1
  omega
theorem dGet_map : ∀ {ks : List Tx} {g : Tx → Dat} {x : Tx}, dGet ks (ks.map g) x = if x ∈ ks then some (g x) else none
  | [], g, x => rfl
  | k :: ks, g, x => by
    rw [List.map_cons]
    show (if k = x then some (g k) else dGet ks (ks.map g) x) = _
    by_cases h : k = x
    · rw [if_pos h, h, if_pos List.mem_cons_self]
    · rw [if_neg h, dGet_map]
      by_cases h2 : x ∈ ks
      · rw [if_pos h2, if_pos (List.mem_cons_of_mem _ h2)]
      · rw [if_neg h2, if_neg (fun z => (List.mem_cons.mp z).elim (fun q => h q.symm) h2)]
theorem e_subs_map {ks : List Tx} {g : Tx → Dat} {x : Tx} (h : x ∈ ks) : gSubs ⟨.dic ks (ks.map g), rt, s, m⟩ ⟨.str x, rt', s', m'⟩ = .ok (pick ⟨.dic ks (ks.map g), rt, s, m⟩ (g x)) := by
  rw [e_subs_d, dGet_map, if_pos h]
  rfl
theorem e_put {i : Nat} {fk fv : Sto → Res Rs} {E : Sto} {ks : List Tx} {ds : List Dat} {k : Kd} (h : slot E i = some (.dic ks ds, k)) : sPut i fk fv E = (fv E).bind fun r => (fk E).bind fun kr => sPut1 i E r kr := by
  unfold sPut
  rw [h]
  rfl
theorem e_get2 {fo fk fd : Sto → Res Rs} {E : Sto} {ks : List Tx} {ds : List Dat} {x : Tx} {rc : Rs} (h : fo E = .ok ⟨.dic ks ds, rt, s, m⟩) (h1 : fk E = .ok ⟨.str x, rt', s', m'⟩) (h2 : fd E = .ok rc) :
    fGet2 fo fk fd E = match dGet ks ds x with
      | some d => .ok (pick ⟨.dic ks ds, rt, s, m⟩ d)
      | none => .ok rc := by
  unfold fGet2
  rw [h, bind_ok]
  simp only
  rw [h1, bind_ok, h2, bind_ok]
  rfl
theorem e_lm {g : Rs → Rs → Res Rs} {fo f : Sto → Res Rs} {E : Sto} {xs : List Tx} (h : fo E = .ok ⟨.lst (xs.map .str), rt, s, m⟩) : fLM g fo f E = (f E).bind (g ⟨.lst (xs.map .str), rt, s, m⟩) := by
  unfold fLM
  rw [h, bind_ok]
  simp only [seqOf, Option.bind, strs_map]
theorem e_lidx {xs : List Tx} {x : Tx} (h : x ∈ xs) : gLIdx ⟨.lst (xs.map .str), rt, s, m⟩ ⟨.str x, rt', s', m'⟩ = .ok ⟨.int (xs.idxOf x), false, [], some []⟩ := by
  unfold gLIdx
  simp only [seqOf, Option.bind, strs_map]
  rw [if_pos h]
  rfl
theorem e_lcnt {xs : List Tx} {x : Tx} : gLCnt ⟨.lst (xs.map .str), rt, s, m⟩ ⟨.str x, rt', s', m'⟩ = .ok ⟨.int (xs.countP fun y => decide (y = x)), false, [], some []⟩ := by
  unfold gLCnt
  simp only [seqOf, Option.bind, strs_map]
  rfl
theorem e_max2 {i j : Int} : gMax2 ⟨.int i, rt, s, m⟩ ⟨.int j, rt', s', m'⟩ = .ok ⟨.int (if j > i then j else i), false, [], some []⟩ := (rfl)
theorem e_cont {x : Tx} {ys : List Tx} : ys.contains x = decide (x ∈ ys) := by
  by_cases h : x ∈ ys
  · rw [decide_eq_true h, List.contains_iff_mem.mpr h]
  · rw [decide_eq_false h]
    cases e : ys.contains x with
    | false => rfl
    | true => exact absurd (List.contains_iff_mem.mp e) h
theorem e_any_ss {x : Tx} {ys : List Tx} : anyEq (.str x) (ys.map .str) = .ok (decide (x ∈ ys)) := by
  rw [anyEq_s, e_cont]
theorem e_in_ss {neg : Bool} {x : Tx} {ys : List Tx} : gIn neg ⟨.str x, rt, s, m⟩ ⟨.lst (ys.map .str), rt', s', m'⟩ = .ok ⟨.bl (if neg then !decide (x ∈ ys) else decide (x ∈ ys)), false, [], some []⟩ := by
  rw [e_in_l, anyEq_s, bind_ok]
  have : ys.contains x = decide (x ∈ ys) := by
    by_cases h : x ∈ ys
    · rw [decide_eq_true h, List.contains_iff_mem.mpr h]
    · rw [decide_eq_false h]
      cases e : ys.contains x with
      | false => rfl
      | true => exact absurd (List.contains_iff_mem.mp e) h
  rw [this]
  rfl
theorem e_in_dd {neg : Bool} {x : Tx} {ks : List Tx} {ds : List Dat} : gIn neg ⟨.str x, rt, s, m⟩ ⟨.dic ks ds, rt', s', m'⟩ = .ok ⟨.bl (if neg then !decide (x ∈ ks) else decide (x ∈ ks)), false, [], some []⟩ := by
  rw [e_in_d]
  have : ks.contains x = decide (x ∈ ks) := by
    by_cases h : x ∈ ks
    · rw [decide_eq_true h, List.contains_iff_mem.mpr h]
    · rw [decide_eq_false h]
      cases e : ks.contains x with
      | false => rfl
      | true => exact absurd (List.contains_iff_mem.mp e) h
  rw [this]
  rfl
theorem e_rev_l {x : List Dat} (h : x.length ≤ 1000000) : gRev ⟨.lst x, rt, s, m⟩ = .ok (rNewL x.reverse s) := by
  unfold gRev
  first
    | rfl
    | exact if_pos h
theorem e_list_l {x : List Dat} : gList ⟨.lst x, rt, s, m⟩ = .ok (rNewL x s) := (rfl)
theorem e_ne0 {ks : List Tx} {ds ds' : List Dat} : gNe0 ⟨.dic ks ds, rt, s, m⟩ ⟨.dic [] ds', rt', s', m'⟩ = .ok ⟨.bl (!decide (ks = [])), false, [], some []⟩ := (rfl)
theorem e_dic0 {E : Sto} : fDic0 E = .ok ⟨.dic [] [], true, [], some []⟩ := (rfl)
end
def down1 (i : Nat) (o : Option (Dat × Kd)) (E : Sto) : Sto := match o with
  | some (d, _) => E.set i (some (d, .shr))
  | none => E
theorem e_down_cons {E : Sto} {i : Nat} {l : List Nat} : downE E (i :: l) = down1 i (slot (downE E l) i) (downE E l) := (rfl)
theorem e_down_some {i : Nat} {d : Dat} {k : Kd} {E : Sto} : down1 i (some (d, k)) E = E.set i (some (d, .shr)) := (rfl)
theorem e_down_none {i : Nat} {E : Sto} : down1 i none E = E := (rfl)
theorem e_unp {is : List Nat} {f : Sto → Res Rs} {E : Sto} : sUnp is f E = (f E).bind (sUnp1 is E) := (rfl)
theorem e_unp2 {i j : Nat} {E : Sto} {a b : Dat} {rt : Bool} {s : List Nat} (hi : i < E.length) (hj : j < E.length) (h : decide (i = j) = false) : sUnp1 [i, j] E ⟨.tup [a, b], rt, s, some []⟩ = .ok (.nx ((E.set i (some (a, .deep))).set j (some (b, .deep)))) := by
  have hne : ¬ i = j := of_decide_eq_false h
  unfold sUnp1
  rw [take_flat]
  simp [sPar.bindK, hi, hj, hne]
theorem e_unp3 {i j l : Nat} {E : Sto} {a b c : Dat} {rt : Bool} {s : List Nat} (hi : i < E.length) (hj : j < E.length) (hl : l < E.length) (h : decide (i = j) = false) (h1 : decide (i = l) = false) (h2 : decide (j = l) = false) :
    sUnp1 [i, j, l] E ⟨.tup [a, b, c], rt, s, some []⟩ = .ok (.nx (((E.set i (some (a, .deep))).set j (some (b, .deep))).set l (some (c, .deep)))) := by
  have hne : ¬ i = j := of_decide_eq_false h
  have hn1 : ¬ i = l := of_decide_eq_false h1
  have hn2 : ¬ j = l := of_decide_eq_false h2
  unfold sUnp1
  rw [take_flat]
  simp [sPar.bindK, hi, hj, hl, hne, hn1, hn2]
theorem e_keys {i : Nat} {E : Sto} {ks : List Tx} {ds : List Dat} {k : Kd} (h : slot E i = some (.dic ks ds, k)) : iKeysF i E = .ok (ks.map Dat.str, [i]) := by
  unfold iKeysF
  rw [h]
theorem e_bindL0 {E : Sto} : bindL [] [] E = some E := (rfl)
theorem e_bindLS {i : Nat} {l : List Nat} {d : Dat} {ds : List Dat} {E : Sto} (h : i < E.length) : bindL (i :: l) (d :: ds) E = bindL l ds (E.set i (some (d, .shr))) := if_pos h
end PV

namespace PV
open PySem PySem.Spec L2
end PV

namespace PV
open PySem PySem.Spec L2
def alph : Tx := [97, 98, 99, 100, 101, 102, 103, 104, 105, 106, 107, 108, 109, 110, 111, 112, 113, 114, 115, 116, 117, 118, 119, 120, 121, 122]
def okS (c : Nat) : Bool := decide (c ∈ alph) || (decide (c = 32) || decide (c = 58))
def okT (x : Tx) : Prop := x.all okS = true
def reT : Tx := [114, 101, 58]
def stp (s : Tx) : Tx := if (s.drop 3).take 1 = [32] then s.drop 4 else s.drop 3
def lp : Nat → Tx → Tx
  | 0, s => s
  | n + 1, s => if s.take 3 = reT then lp n (stp s) else s
end PV

namespace PV
open PySem PySem.Spec L2
def nmB (x : Tx) : Bool := decide (1 ≤ x.length) && (decide (x.length ≤ 3) && x.all fun c => decide (c ∈ alph))
def nmOk (x : Tx) : Prop := nmB x = true
theorem nmOk.le {x : Tx} (h : nmOk x) : 1 ≤ x.length ∧ x.length ≤ 3 ∧ ∀ c ∈ x, c ∈ alph := by
  unfold nmOk nmB at h
  simp only [Bool.and_eq_true, decide_eq_true_eq, List.all_eq_true] at h
  exact h
theorem nmOk.ne {x : Tx} (h : nmOk x) : x ≠ [] := fun z => by
  have := h.le.1
  rw [z] at this
  simp at this
structure Letter where
  nm : Tx
  ans : List Tx
  ttl : Tx
def ltD (l : Letter) : Dat := .tup [.str l.nm, .lst (l.ans.map .str), .str l.ttl]
def ltsD (ls : List Letter) : Dat := .lst (ls.map ltD)
structure LtOk (l : Letter) : Prop where
  nm : nmOk l.nm
  ttl : l.ttl.length ≤ 12
  sgn : okT l.ttl
  few : l.ans.length ≤ 4
  ans : ∀ a ∈ l.ans, nmOk a
  nod : l.ans.Nodup
  own : l.nm ∉ l.ans
structure LtsOk (ls : List Letter) : Prop where
  len : ls.length ≤ 9
  nod : (ls.map (·.nm)).Nodup
  all : ∀ l ∈ ls, LtOk l
end PV

namespace PV
open PySem PySem.Spec L2
/-- cells that a law may have -/
structure CellsOk (cs : List Int) : Prop where
  ne : 0 < cs.length
  le : cs.length ≤ 63
  bits : ∀ z ∈ cs, Builtin.Int.intBits z ≤ 1048576
theorem CellsOk.cell {cs : List Int} (h : CellsOk cs) {z : Int} (hz : z ∈ cs) : Builtin.Int.intBits z ≤ 2000000 := Nat.le_trans (h.bits z hz) (by decide)
def rot (t c : Nat) : Nat := alph.getD ((c - 97 + t) % 26) 0
end PV

namespace PV
open PySem PySem.Spec L2
structure LtsFew (ls : List Letter) : Prop where
  len : ls.length ≤ 9
  few : ∀ l ∈ ls, l.ans.length ≤ 4
theorem LtsOk.few {ls : List Letter} (h : LtsOk ls) : LtsFew ls := ⟨h.len, fun l hl => (h.all l hl).few⟩
structure Best (l : List Tx) (b : Tx) : Prop where
  mem : b ∈ l
  most : ∀ y ∈ l, l.count y ≤ l.count b
  least : ∀ y ∈ l, l.count y = l.count b → ltT y b = false
theorem Best.uniq {l : List Tx} {a b : Tx} (ha : Best l a) (hb : Best l b) : a = b := by
  have h1 := ha.most b hb.mem
  have h2 := hb.most a ha.mem
  exact ltT_tot (hb.least a ha.mem (by omega)) (ha.least b hb.mem (by omega))
end PV

namespace PV
open PySem PySem.Spec L2
/-- a dict of texts -/
def fD (ks : List Tx) (f : Tx → Tx) : Dat := .dic ks (ks.map fun k => .str (f k))
theorem e_rv_fDD {i : Nat} {ks : List Tx} {f : Tx → Tx} : rVar i (fD ks f) .deep = ⟨fD ks f, false, [i], some [i]⟩ := (rfl)
theorem e_rv_fDR {i : Nat} {ks : List Tx} {f : Tx → Tx} : rVar i (fD ks f) .root = ⟨fD ks f, false, [i], none⟩ := (rfl)
theorem e_rv_fDS {i : Nat} {ks : List Tx} {f : Tx → Tx} : rVar i (fD ks f) .shr = ⟨fD ks f, false, [i], none⟩ := (rfl)
theorem e_call_fD {rs : List Rs} {ks : List Tx} {f : Tx → Tx} : fCall2 rs (fD ks f, true) = .ok ⟨fD ks f, false, [], some []⟩ := (rfl)
theorem e_in_fD {neg : Bool} {x : Tx} {ks : List Tx} {f : Tx → Tx} {rt rt' : Bool} {s s' : List Nat} {m m' : Option (List Nat)} : gIn neg ⟨.str x, rt, s, m⟩ ⟨fD ks f, rt', s', m'⟩ = .ok ⟨.bl (if neg then !decide (x ∈ ks) else decide (x ∈ ks)), false, [], some []⟩ := e_in_dd
theorem e_list_fD {ks : List Tx} {f : Tx → Tx} {rt : Bool} {s : List Nat} {m : Option (List Nat)} : gList ⟨fD ks f, rt, s, m⟩ = .ok ⟨.lst (ks.map .str), true, [], some []⟩ := e_list_d
theorem e_len_fD {ks : List Tx} {f : Tx → Tx} {rt : Bool} {s : List Nat} {m : Option (List Nat)} : gLen ⟨fD ks f, rt, s, m⟩ = .ok ⟨.int ks.length, false, [], some []⟩ := (rfl)
theorem flat_fD (ks : List Tx) (f : Tx → Tx) : flatL (ks.map fun k => Dat.str (f k)) = true := by
  rw [flatL_all, List.all_eq_true]
  intro d hd
  obtain ⟨k, _, rfl⟩ := List.mem_map.mp hd
  rfl
theorem e_dict_fD {ks : List Tx} {f : Tx → Tx} {rt : Bool} {s : List Nat} {m : Option (List Nat)} : gDict ⟨fD ks f, rt, s, m⟩ = .ok ⟨fD ks f, true, [], some []⟩ := by
  show (if flatL (ks.map fun k => Dat.str (f k)) = true then _ else _) = _
  rw [flat_fD, if_pos rfl]
  rfl
theorem e_sub_fD {ks : List Tx} {f : Tx → Tx} {x : Tx} {rt rt' : Bool} {s s' : List Nat} {m m' : Option (List Nat)} (h : x ∈ ks) : gSubs ⟨fD ks f, rt, s, m⟩ ⟨.str x, rt', s', m'⟩ = .ok ⟨.str (f x), false, [], some []⟩ := e_subs_map h
def updT (f : Tx → Tx) (x v : Tx) : Tx → Tx := fun k => if k = x then v else f k
end PV

namespace PV
open PySem PySem.Spec L2
end PV

namespace PV
open PySem PySem.Spec L2
def it (f : Tx → Tx) : Nat → Tx → Tx
  | 0, x => x
  | n + 1, x => f (it f n x)
theorem it_add (f : Tx → Tx) (a : Nat) : ∀ (b : Nat) (x : Tx), it f (a + b) x = it f a (it f b x) := by
  intro b x
  induction a with
  | zero => rw [Nat.zero_add]; rfl
  | succ a ih => rw [Nat.succ_add]; show f (it f (a + b) x) = f _; rw [ih]
theorem it_succ' (f : Tx → Tx) (n : Nat) (x : Tx) : it f (n + 1) x = it f n (f x) := it_add f n 1 x
theorem it_period {f : Tx → Tx} {p : Nat} {x : Tx} (h : it f p x = x) : ∀ k, it f (p * k) x = x
  | 0 => rfl
  | k + 1 => by rw [Nat.mul_succ, it_add, h, it_period h k]
theorem it_mod {f : Tx → Tx} {p : Nat} {x : Tx} (h : it f p x = x) (n : Nat) : it f n x = it f (n % p) x := by
  have e : n = n % p + p * (n / p) := (Nat.mod_add_div n p).symm
  conv => lhs; rw [e]
  rw [it_add, it_period h]
/-- comes round to itself -/
def OnCyc (f : Tx → Tx) (x : Tx) : Prop := (∃ p, 0 < p ∧ it f p x = x) ∧ ∀ j, it f j x ≠ []
/-- .. and is the least of its ring -/
def IsMin (f : Tx → Tx) (x : Tx) : Prop := OnCyc f x ∧ ∀ j, ltT (it f j x) x = false
theorem OnCyc.back {f : Tx → Tx} {x : Tx} (h : OnCyc f x) (j : Nat) : ∃ k, it f k (it f j x) = x := by
  obtain ⟨⟨p, hp, e⟩, _⟩ := h
  refine ⟨p * (j + 1) - j, ?_⟩
  rw [← it_add]
  have : p * (j + 1) - j + j = p * (j + 1) := by
    have : j ≤ p * (j + 1) := Nat.le_trans (Nat.le_succ j) (Nat.le_mul_of_pos_left _ hp)
    omega
  rw [this, it_period e]
theorem OnCyc.next {f : Tx → Tx} {x : Tx} (h : OnCyc f x) (j : Nat) : OnCyc f (it f j x) := by
  obtain ⟨⟨p, hp, e⟩, n⟩ := h
  refine ⟨⟨p, hp, ?_⟩, fun i => ?_⟩
  · rw [← it_add, Nat.add_comm, it_add, e]
  · rw [← it_add]
    exact n _
theorem IsMin.uniq {f : Tx → Tx} {x : Tx} (h : IsMin f x) {j : Nat} (h2 : IsMin f (it f j x)) : it f j x = x := by
  obtain ⟨k, hk⟩ := h.1.back j
  have h3 := h2.2 k
  rw [hk] at h3
  exact ltT_tot (h.2 j) h3
open Classical in
/-- where each name stands: rings cut at the least name -/
noncomputable def par (f : Tx → Tx) (x : Tx) : Tx := if IsMin f x then [] else f x
/-- a path that ends stays one if a name is put at the top -/
theorem ends_upd {f : Tx → Tx} {r : Tx} : ∀ (n : Nat) (y : Tx), it f n y = [] → ∃ m, it (updT f r []) m y = []
  | 0, y, h => ⟨0, h⟩
  | n + 1, y, h => by
    by_cases hy : y = r
    · exact ⟨1, if_pos hy⟩
    · rw [it_succ'] at h
      obtain ⟨m, hm⟩ := ends_upd (r := r) n (f y) h
      refine ⟨m + 1, ?_⟩
      rw [it_succ']
      have : updT f r [] y = f y := if_neg hy
      rw [this]
      exact hm
theorem reach_upd {f : Tx → Tx} {r : Tx} : ∀ (n : Nat) (y : Tx), it f n y = r → ∃ m, it (updT f r []) m y = []
  | 0, y, h => ⟨1, if_pos h⟩
  | n + 1, y, h => by
    by_cases hy : y = r
    · exact ⟨1, if_pos hy⟩
    · rw [it_succ'] at h
      obtain ⟨m, hm⟩ := reach_upd (r := r) n (f y) h
      refine ⟨m + 1, ?_⟩
      rw [it_succ']
      have : updT f r [] y = f y := if_neg hy
      rw [this]
      exact hm
/-- the first steps -/
def steps (f : Tx → Tx) (x : Tx) (m : Nat) : List Tx := (List.range m).map fun j => it f j x
theorem mem_steps {f : Tx → Tx} {x y : Tx} {m : Nat} : y ∈ steps f x m ↔ ∃ j, j < m ∧ it f j x = y := by
  unfold steps
  rw [List.mem_map]
  constructor
  · rintro ⟨j, hj, e⟩
    exact ⟨j, List.mem_range.mp hj, e⟩
  · rintro ⟨j, hj, e⟩
    exact ⟨j, List.mem_range.mpr hj, e⟩
/-- what keeps to a list of names -/
structure Clo (ks : List Tx) (f : Tx → Tx) : Prop where
  nod : ks.Nodup
  ne : [] ∉ ks
  cl : ∀ x ∈ ks, f x = [] ∨ f x ∈ ks
/-- what ring_of tells -/
structure RingOf (ks : List Tx) (f : Tx → Tx) (x : Tx) (R : List Tx) : Prop where
  top : R = [] → ∃ n, it f n x = []
  ring : R ≠ [] → ∃ i p, 0 < p ∧ R = steps f (it f i x) p ∧ it f p (it f i x) = it f i x ∧ (∀ j, it f j x ∈ ks)
/-- how far the rings have been cut -/
structure Cut (ks : List Tx) (w f : Tx → Tx) (done : List Tx) : Prop where
  a : ∀ x, f x = w x ∨ (f x = [] ∧ IsMin w x)
  b : ∀ y ∈ done, ∃ n, it f n y = []
theorem Cut.start {ks : List Tx} {w : Tx → Tx} : Cut ks w w [] := ⟨fun _ => .inl rfl, fun _ z => nomatch z⟩
theorem Cut.keep {ks : List Tx} {w f : Tx → Tx} {done : List Tx} (c : Cut ks w f done) {x : Tx} (h : ∃ n, it f n x = []) : Cut ks w f (done ++ [x]) :=
  ⟨c.a, fun y hy => (List.mem_append.mp hy).elim (c.b y) fun z => by
    rw [List.mem_singleton] at z
    rw [z]
    exact h⟩
theorem Cut.cut {ks : List Tx} {w f : Tx → Tx} {done : List Tx} (c : Cut ks w f done) (cw : Clo ks w) {x r : Tx} {R : List Tx} {i p : Nat} (hp : 0 < p) (hR : R = steps f (it f i x) p) (hper : it f p (it f i x) = it f i x) (hin : ∀ j, it f j x ∈ ks)
    (hr : r ∈ R) (hmin : ∀ y ∈ R, ltT y r = false) : Cut ks w (updT f r []) (done ++ [x]) ∧ r ∈ ks := by
  subst hR
  obtain ⟨a, ha, ea⟩ := mem_steps.mp hr
  have hne : ∀ j, it f j x ≠ [] := fun j z => cw.ne (by rw [← z]; exact hin j)
  -- r's own line
  have hrx : r = it f (a + i) x := by rw [it_add, ea]
  have hrk : r ∈ ks := by rw [hrx]; exact hin _
  have hrj : ∀ j, it f j r = it f (j + (a + i)) x := fun j => by rw [hrx, ← it_add]
  have hsame : ∀ j, it w j r = it f j r := by
    intro j
    induction j with
    | zero => rfl
    | succ j ih =>
      show w (it w j r) = f (it f j r)
      rw [ih]
      rcases c.a (it f j r) with e | ⟨e, _⟩
      · rw [e]
      · exfalso
        have : it f (j + 1) r = [] := e
        rw [hrj] at this
        exact hne _ this
  have hrper : it f p r = r := by
    rw [← ea, ← it_add, Nat.add_comm, it_add, hper]
  have hmin2 : ∀ j, it f j r ∈ steps f (it f i x) p := fun j => by
    have : it f j r = it f ((j + a) % p) (it f i x) := by
      rw [← ea, ← it_add, it_mod hper]
    exact mem_steps.mpr ⟨(j + a) % p, Nat.mod_lt _ hp, this.symm⟩
  have hM : IsMin w r := ⟨⟨⟨p, hp, by rw [hsame, hrper]⟩, fun j => by rw [hsame, hrj]; exact hne _⟩, fun j => by
    rw [hsame]
    exact hmin _ (hmin2 j)⟩
  refine ⟨⟨fun y => ?_, fun y hy => ?_⟩, hrk⟩
  · by_cases h : y = r
    · right
      subst h
      exact ⟨if_pos rfl, hM⟩
    · have : updT f r [] y = f y := if_neg h
      rw [this]
      exact c.a y
  · rcases List.mem_append.mp hy with q | q
    · obtain ⟨n, hn⟩ := c.b y q
      exact ends_upd n y hn
    · rw [List.mem_singleton] at q
      rw [q]
      exact reach_upd (a + i) x hrx.symm
/-- all names gone through: the rings are cut as told -/
theorem Cut.all {ks : List Tx} {w f : Tx → Tx} {done : List Tx} (c : Cut ks w f done) {x : Tx} (hx : x ∈ done) : f x = par w x := by
  unfold par
  by_cases hm : IsMin w x
  · rw [if_pos hm]
    rcases c.a x with e | e
    · exfalso
      obtain ⟨n, hn⟩ := c.b x hx
      have hsame : ∀ j, it f j x = it w j x := by
        intro j
        induction j with
        | zero => rfl
        | succ j ih =>
          show f (it f j x) = w (it w j x)
          rw [ih]
          rcases c.a (it w j x) with q | ⟨q, q2⟩
          · exact q
          · have := hm.uniq q2
            rw [this, e]
      rw [hsame] at hn
      exact hm.1.2 n hn
    · exact e.1
  · rw [if_neg hm]
    rcases c.a x with e | e
    · exact e
    · exact absurd e.2 hm
end PV

namespace PV
open PySem PySem.Spec L2
end PV

namespace PV
open PySem PySem.Spec L2
mutual
def datB : Dat → Dat → Bool
  | .non, .non => true
  | .bl a, .bl b => a == b
  | .int a, .int b => decide (a = b)
  | .str a, .str b => decide (a = b)
  | .tup a, .tup b => datsB a b
  | .lst a, .lst b => datsB a b
  | .rol a, .rol b => datsB a b
  | .dic k a, .dic l b => decide (k = l) && datsB a b
  | .ins c k a, .ins d l b => decide (c = d) && (decide (k = l) && datsB a b)
  | .fn a, .fn b => decide (a = b)
  | _, _ => false
def datsB : List Dat → List Dat → Bool
  | [], [] => true
  | a :: as, b :: bs => datB a b && datsB as bs
  | _, _ => false
end
mutual
theorem datB_eq : ∀ (a b : Dat), datB a b = true → a = b
  | .non, b, h => by cases b <;> simp only [datB] at h <;> first | rfl | cases h
  | .bl a, b, h => by
    cases b <;> simp only [datB] at h <;> first | cases h | skip
    rw [eq_of_beq h]
  | .int a, b, h => by
    cases b <;> simp only [datB] at h <;> first | cases h | skip
    rw [of_decide_eq_true h]
  | .str a, b, h => by
    cases b <;> simp only [datB] at h <;> first | cases h | skip
    rw [of_decide_eq_true h]
  | .fn a, b, h => by
    cases b <;> simp only [datB] at h <;> first | cases h | skip
    rw [of_decide_eq_true h]
  | .tup a, b, h => by
    cases b <;> simp only [datB] at h <;> first | cases h | skip
    rw [datsB_eq a _ h]
  | .lst a, b, h => by
    cases b <;> simp only [datB] at h <;> first | cases h | skip
    rw [datsB_eq a _ h]
  | .rol a, b, h => by
    cases b <;> simp only [datB] at h <;> first | cases h | skip
    rw [datsB_eq a _ h]
  | .dic k a, b, h => by
    cases b <;> simp only [datB] at h <;> first | cases h | skip
    rw [Bool.and_eq_true] at h
    rw [of_decide_eq_true h.1, datsB_eq a _ h.2]
  | .ins c k a, b, h => by
    cases b <;> simp only [datB] at h <;> first | cases h | skip
    rw [Bool.and_eq_true, Bool.and_eq_true] at h
    rw [of_decide_eq_true h.1, of_decide_eq_true h.2.1, datsB_eq a _ h.2.2]
theorem datsB_eq : ∀ (a b : List Dat), datsB a b = true → a = b
  | [], [], _ => rfl
  | [], _ :: _, h => by simp [datsB] at h
  | _ :: _, [], h => by simp [datsB] at h
  | a :: as, b :: bs, h => by
    simp only [datsB, Bool.and_eq_true] at h
    rw [datB_eq a b h.1, datsB_eq as bs h.2]
end
/-- a call's outcome is this one -/
def outB (r : Res (Dat × Bool)) (d : Dat) (dp : Bool) : Bool := match r with
  | .ok (e, dq) => datB e d && (dq == dp)
  | _ => false
theorem outB_eq {r : Res (Dat × Bool)} {d : Dat} {dp : Bool} (h : outB r d dp = true) : r = .ok (d, dp) := by
  unfold outB at h
  split at h
  · rw [Bool.and_eq_true] at h
    rw [datB_eq _ _ h.1, eq_of_beq h.2]
  · cases h
end PV

namespace PV
open PySem PySem.Spec L2
def prD (f : Tx → Tx) (x : Tx) : Dat := .tup [.str x, .str (f x)]
def prsD (ks : List Tx) (f : Tx → Tx) : Dat := .lst (ks.map (prD f))
theorem e_rv_ltsD {i : Nat} {ls : List Letter} : rVar i (ltsD ls) .deep = ⟨ltsD ls, false, [i], some [i]⟩ := (rfl)
theorem e_rv_ltsR {i : Nat} {ls : List Letter} : rVar i (ltsD ls) .root = ⟨ltsD ls, false, [i], none⟩ := (rfl)
theorem e_rv_ltsS {i : Nat} {ls : List Letter} : rVar i (ltsD ls) .shr = ⟨ltsD ls, false, [i], none⟩ := (rfl)
theorem e_call_lts {rs : List Rs} {ls : List Letter} : fCall2 rs (ltsD ls, true) = .ok ⟨ltsD ls, false, [], some []⟩ := (rfl)
theorem e_rv_prsD {i : Nat} {ks : List Tx} {f : Tx → Tx} : rVar i (prsD ks f) .deep = ⟨prsD ks f, false, [i], some [i]⟩ := (rfl)
theorem e_rv_prsS {i : Nat} {ks : List Tx} {f : Tx → Tx} : rVar i (prsD ks f) .shr = ⟨prsD ks f, false, [i], none⟩ := (rfl)
theorem e_call_prs {rs : List Rs} {ks : List Tx} {f : Tx → Tx} : fCall2 rs (prsD ks f, true) = .ok ⟨prsD ks f, false, [], some []⟩ := (rfl)
theorem e_isi_lts {own : Tx → Option Bool} {rt : Bool} {s : List Nat} {m : Option (List Nat)} {ls : List Letter} : gIsi (isT "list") own ⟨ltsD ls, rt, s, m⟩ = .ok ⟨.bl true, false, [], some []⟩ := e_isi_l
theorem e_isi_prs {own : Tx → Option Bool} {rt : Bool} {s : List Nat} {m : Option (List Nat)} {ks : List Tx} {f : Tx → Tx} : gIsi (isT "list") own ⟨prsD ks f, rt, s, m⟩ = .ok ⟨.bl true, false, [], some []⟩ := e_isi_l
theorem e_len_lts {rt : Bool} {s : List Nat} {m : Option (List Nat)} {ls : List Letter} : gLen ⟨ltsD ls, rt, s, m⟩ = .ok ⟨.int ls.length, false, [], some []⟩ := by
  show Res.ok (rsF (.int (ls.map ltD).length)) = _
  rw [List.length_map]
  rfl
theorem flat_prs {ks : List Tx} {f : Tx → Tx} : flatL (ks.map (prD f)) = true := by
  rw [flatL_all, List.all_eq_true]
  intro d hd
  obtain ⟨x, _, rfl⟩ := List.mem_map.mp hd
  rfl
theorem alike_strs : ∀ xs ys : List Tx, PySem.W.alikeAll (xs.map fun x => PyData.str (mkS x)) (ys.map fun x => PyData.str (mkS x)) = true
  | [], _ => by simp only [List.map_nil, PySem.W.alikeAll]
  | _ :: _, [] => by simp only [List.map_cons, List.map_nil, PySem.W.alikeAll]
  | x :: xs, y :: ys => by
    simp only [List.map_cons, PySem.W.alikeAll, PySem.W.alike, Bool.true_and]
    exact alike_strs xs ys
def sortL (ls : List Letter) : List Letter := sortB (byK (·.nm)) ls
theorem e_sorted_lt {ls : List Letter} (h : LtsOk ls) {rt : Bool} {s : List Nat} {m : Option (List Nat)} : gSorted ⟨ltsD ls, rt, s, m⟩ = .ok (rNewL ((sortL ls).map ltD) s) := by
  have hl := h.len
  exact e_sorted_t (e := ltD) (k := (·.nm)) (r := fun l => [.lst (l.ans.map .str), .str l.ttl]) (P := fun l => [.list (l.ans.map fun x => PyData.str (mkS x)), .str (mkS l.ttl)]) (by omega) (fun _ _ => rfl) (fun l _ => by
    simp only [toPDs, toPD, toPDs_strs, Option.map_some]) h.nod (fun l _ m _ => by
    simp only [PySem.W.alikeAll, PySem.W.alike, alike_strs, Bool.and_self]) fun l _ => by
    simp only [PyData.depthAll, PyData.depth, depth_strs]
    decide
/-- pairs, sorted -/
theorem e_sorted_pr {ks : List Tx} {f : Tx → Tx} (hn : ks.Nodup) (hl : ks.length ≤ 1000) {rt : Bool} {s : List Nat} {m : Option (List Nat)} : gSorted ⟨.lst (ks.map (prD f)), rt, s, m⟩ = .ok ⟨prsD (sortT ks) f, true, s, some []⟩ := by
  have h1 : (ks.map id).Nodup := by rw [List.map_id]; exact hn
  have := e_sorted_t (α := Tx) (e := prD f) (k := id) (r := fun x => [.str (f x)]) (P := fun x => [.str (mkS (f x))]) (xs := ks) (rt := rt) (s := s) (m := m) (by omega) (fun _ _ => rfl) (fun x _ => rfl) h1 (fun _ _ _ _ => rfl) fun x _ => by
    simp only [PyData.depthAll, PyData.depth]
    decide
  rw [this]
  have e : sortB (byK id) ks = sortT ks := rfl
  rw [e, e_newL flat_prs]
  rfl
end PV

namespace PV
open PySem PySem.Spec L2
/-- slot i holds d -/
def Has (E : Sto) (i : Nat) (d : Dat) : Prop := ∃ k, slot E i = some (d, k)
theorem Has.lt {E : Sto} {i : Nat} {d : Dat} (h : Has E i d) : i < E.length := slot_lt h.choose_spec
theorem Has.var {E : Sto} {i : Nat} {d : Dat} (h : Has E i d) : ∃ k, fVar i E = .ok (rVar i d k) := by
  obtain ⟨k, h⟩ := h
  exact ⟨k, by rw [e_var, h]; rfl⟩
theorem Has.lst {E : Sto} {i : Nat} {xs : List Dat} (h : Has E i (.lst xs)) : ∃ m, fVar i E = .ok ⟨.lst xs, false, [i], m⟩ := by
  obtain ⟨k, h⟩ := h.var
  exact ⟨if k = .deep then some [i] else none, h⟩
theorem Has.int {E : Sto} {i : Nat} {z : Int} (h : Has E i (.int z)) : fVar i E = .ok ⟨.int z, false, [], some []⟩ := by
  obtain ⟨k, h⟩ := h.var
  exact h
theorem Has.str {E : Sto} {i : Nat} {z : Tx} (h : Has E i (.str z)) : fVar i E = .ok ⟨.str z, false, [], some []⟩ := by
  obtain ⟨k, h⟩ := h.var
  exact h
theorem Has.rol {E : Sto} {i : Nat} {ns : List Int} (h : Has E i (.rol (ns.map .int))) : fVar i E = .ok ⟨.rol (ns.map .int), false, [], some []⟩ := by
  obtain ⟨k, h⟩ := h.var
  rw [h, e_rv_rol]
theorem Has.set {E : Sto} {i j : Nat} {d : Dat} {x : Option (Dat × Kd)} (h : Has E i d) (hij : i ≠ j) : Has (E.set j x) i d := by
  obtain ⟨k, h⟩ := h
  refine ⟨k, ?_⟩
  unfold slot at h ⊢
  rw [List.getElem?_set_ne (fun z => hij z.symm)]
  exact h
theorem Has.put {E : Sto} {i : Nat} {d : Dat} {k : Kd} (hi : i < E.length) : Has (E.set i (some (d, k))) i d := ⟨k, by rw [slot_set hi, if_pos rfl]⟩
theorem Has.down {E : Sto} {i : Nat} {d : Dat} {l : List Nat} (h : Has E i d) : Has (downE E l) i d := by
  obtain ⟨k, h⟩ := h
  unfold Has
  rw [downE_at, h]
  by_cases e : i ∈ l
  · rw [if_pos e]
    exact ⟨.shr, rfl⟩
  · rw [if_neg e]
    exact ⟨k, rfl⟩
theorem Has.wipe {E : Sto} {i : Nat} {d : Dat} {l : List Nat} (h : Has E i d) (hi : i ∉ l) : Has (wipeE E l) i d := by
  obtain ⟨k, h⟩ := h
  refine ⟨k, ?_⟩
  rw [slot_wipe, if_neg hi]
  exact h
end PV

namespace PV
open PySem PySem.Spec L2
def Val (f : Sto → Res Rs) (E : Sto) (d : Dat) : Prop := ∃ r, f E = .ok r ∧ r.d = d
def Vals (a : Sto → Res (List Rs)) (E : Sto) (ds : List Dat) : Prop := ∃ rs, a E = .ok rs ∧ rs.map (·.d) = ds
section
variable {E : Sto} {f g : Sto → Res Rs} {d e : Dat} {n : Nat}
theorem v_var {i : Nat} (h : Has E i d) : Val (fVar i) E d := by
  obtain ⟨k, h⟩ := h.var
  exact ⟨_, h, rVar_d⟩
theorem v_nil : Vals aNil E [] := ⟨[], e_aNil, rfl⟩
theorem v_cons {a : Sto → Res (List Rs)} {ds : List Dat} (h : Val f E d) (h2 : Vals a E ds) : Vals (aCons f a) E (d :: ds) := by
  obtain ⟨r, h, rfl⟩ := h
  obtain ⟨rs, h2, rfl⟩ := h2
  exact ⟨r :: rs, by rw [e_aCons, h, bind_ok, e_aCons1, h2, bind_ok, e_aCons2], rfl⟩
theorem v_call {a : Sto → Res (List Rs)} {ds : List Dat} {c : Con} {dp : Bool} (h : Vals a E ds) (hn : ds.length = n) (hc : c ds = .ok (d, dp)) : Val (fCall n c a) E d := by
  obtain ⟨rs, h, rfl⟩ := h
  rw [List.length_map] at hn
  have e : fCall n c a E = fCall2 rs (d, dp) := by rw [e_call, h, bind_ok, e_call1 hn, hc, bind_ok]
  unfold fCall2 at e
  refine ⟨_, e, ?_⟩
  simp only
  split
  · rfl
  · split <;> rfl
theorem v_t {b : Bool} (h : Val f E (.bl b)) : tOf f E = .ok b := by
  obtain ⟨⟨_, rt, s, m⟩, h, rfl⟩ := h
  rw [e_tOf, h, bind_ok, e_toB]
end
theorem down_len {E : Sto} : ∀ {l : List Nat}, (downE E l).length = E.length
  | [] => rfl
  | i :: l => by
    rw [e_down_cons]
    cases h : slot (downE E l) i with
    | none => rw [e_down_none, down_len]
    | some p =>
      obtain ⟨d, k⟩ := p
      rw [e_down_some, List.length_set, down_len]
/-- slots that hold what they held, but for some -/
def Keep (E E2 : Sto) (l : List Nat) : Prop := E2.length = E.length ∧ ∀ j d, j ∉ l → Has E j d → Has E2 j d
theorem Keep.refl {E : Sto} {l : List Nat} : Keep E E l := ⟨rfl, fun _ _ _ h => h⟩
theorem Keep.trans {E E2 E3 : Sto} {l : List Nat} (a : Keep E E2 l) (b : Keep E2 E3 l) : Keep E E3 l := ⟨b.1.trans a.1, fun j d hj h => b.2 j d hj (a.2 j d hj h)⟩
theorem Keep.mono {E E2 : Sto} {l l2 : List Nat} (a : Keep E E2 l) (h : ∀ j ∈ l, j ∈ l2) : Keep E E2 l2 := ⟨a.1, fun j d hj q => a.2 j d (fun z => hj (h j z)) q⟩
theorem Keep.down {E : Sto} {l s : List Nat} : Keep E (downE E s) l := ⟨down_len, fun _ _ _ h => h.down⟩
theorem Keep.set {E : Sto} {i : Nat} {x : Option (Dat × Kd)} : Keep E (E.set i x) [i] := ⟨List.length_set, fun j d hj h => h.set fun z => hj (z ▸ List.mem_cons_self)⟩
end PV

namespace PV
open PySem PySem.Spec L2
def nDk : Tx := [68, 101, 115, 107]
def nLy : Tx := [108, 121, 105, 110, 103]
def dkD (ls : List Letter) : Dat := .ins nDk [nLy] [ltsD ls]
theorem LtsOk.sub {ls ms : List Letter} (h : LtsOk ls) (s : ms.Sublist ls) : LtsOk ms :=
  ⟨Nat.le_trans s.length_le h.len, (s.map _).nodup h.nod, fun l hl => h.all l (s.subset hl)⟩
end PV

namespace PV
open PySem PySem.Spec L2
/-- slots beyond l hold what they held, those of x with the same right -/
structure KeepX (x : List Nat) (E E2 : Sto) (l : List Nat) : Prop where
  len : E2.length = E.length
  has : ∀ j d, j ∉ l → Has E j d → Has E2 j d
  ex : ∀ j ∈ x, slot E2 j = slot E j
theorem KeepX.refl {x l : List Nat} {E : Sto} : KeepX x E E l := ⟨rfl, fun _ _ _ h => h, fun _ _ => rfl⟩
theorem KeepX.trans {x l : List Nat} {E E2 E3 : Sto} (a : KeepX x E E2 l) (b : KeepX x E2 E3 l) : KeepX x E E3 l := ⟨b.len.trans a.len, fun j d hj h => b.has j d hj (a.has j d hj h), fun j hj => (b.ex j hj).trans (a.ex j hj)⟩
theorem KeepX.mono {x x2 l l2 : List Nat} {E E2 : Sto} (a : KeepX x E E2 l) (h : ∀ j ∈ l, j ∈ l2) (h2 : ∀ j ∈ x2, j ∈ x) : KeepX x2 E E2 l2 := ⟨a.len, fun j d hj q => a.has j d (fun z => hj (h j z)) q, fun j hj => a.ex j (h2 j hj)⟩
theorem KeepX.down {x l s : List Nat} {E : Sto} (h : ∀ j ∈ x, j ∉ s) : KeepX x E (downE E s) l := ⟨down_len, fun _ _ _ h => h.down, fun j hj => by rw [downE_at, if_neg (h j hj)]⟩
theorem KeepX.set {x : List Nat} {E : Sto} {i : Nat} {v : Option (Dat × Kd)} (h : i ∉ x) : KeepX x E (E.set i v) [i] := ⟨List.length_set, fun j d hj q => q.set fun z => hj (z ▸ List.mem_cons_self), fun j hj => by
  unfold slot
  have hne : i ≠ j := fun z => h (by rw [z]; exact hj)
  rw [List.getElem?_set_ne hne]⟩
def DkIn (E : Sto) (i : Nat) (A : List Letter) : Prop := ∃ k, slot E i = some (dkD A, k) ∧ k.w = true
theorem DkIn.has {E : Sto} {i : Nat} {A : List Letter} (h : DkIn E i A) : Has E i (dkD A) := let ⟨k, h, _⟩ := h; ⟨k, h⟩
theorem DkIn.keep {E E2 : Sto} {i : Nat} {A : List Letter} {x l : List Nat} (h : DkIn E i A) (k : KeepX x E E2 l) (hi : i ∈ x) : DkIn E2 i A := let ⟨kk, h, w⟩ := h; ⟨kk, by rw [k.ex i hi]; exact h, w⟩
theorem DkIn.put {E : Sto} {i : Nat} {A : List Letter} {k : Kd} (h : i < E.length) (hk : k.w = true) : DkIn (E.set i (some (dkD A, k))) i A := ⟨k, by rw [slot_set h, if_pos rfl], hk⟩
theorem v_setD {x : List Nat} {keep : Bool} {i : Nat} {f : Sto → Res Rs} {E : Sto} {d : Dat} {rt : Bool} {s : List Nat} (h : f E = .ok ⟨d, rt, s, some []⟩) (hi : i < E.length) (hx : i ∉ x) :
    sSet keep i f E = .ok (.nx (E.set i (some (d, .deep)))) ∧ KeepX x E (E.set i (some (d, .deep))) [i] ∧ Has (E.set i (some (d, .deep))) i d := by
  refine ⟨?_, KeepX.set hx, Has.put hi⟩
  rw [e_set, h, bind_ok, e_set_deep hi]
end PV

namespace PV
open PySem PySem.Spec L2
 set_option maxHeartbeats 0 in
theorem k20_talks_0 : ∀ r : Nat, r < 3 → outB (c__law_talks_right_v2 [.int ((r + 0 : Nat) : Int)]) (.bl true) true = true := by decide +kernel
 set_option maxHeartbeats 0 in
theorem k20_talks_1 : ∀ r : Nat, r < 3 → outB (c__law_talks_right_v2 [.int ((r + 3 : Nat) : Int)]) (.bl true) true = true := by decide +kernel
 set_option maxHeartbeats 0 in
theorem k20_talks_2 : ∀ r : Nat, r < 3 → outB (c__law_talks_right_v2 [.int ((r + 6 : Nat) : Int)]) (.bl true) true = true := by decide +kernel
 set_option maxHeartbeats 0 in
theorem k20_talks_3 : ∀ r : Nat, r < 3 → outB (c__law_talks_right_v2 [.int ((r + 9 : Nat) : Int)]) (.bl true) true = true := by decide +kernel
 set_option maxHeartbeats 0 in
theorem k20_talks_4 : ∀ r : Nat, r < 3 → outB (c__law_talks_right_v2 [.int ((r + 12 : Nat) : Int)]) (.bl true) true = true := by decide +kernel
 set_option maxHeartbeats 0 in
theorem k20_talks_5 : ∀ r : Nat, r < 3 → outB (c__law_talks_right_v2 [.int ((r + 15 : Nat) : Int)]) (.bl true) true = true := by decide +kernel
 set_option maxHeartbeats 0 in
theorem k20_talks_6 : ∀ r : Nat, r < 3 → outB (c__law_talks_right_v2 [.int ((r + 18 : Nat) : Int)]) (.bl true) true = true := by decide +kernel
 set_option maxHeartbeats 0 in
theorem k20_talks_7 : ∀ r : Nat, r < 3 → outB (c__law_talks_right_v2 [.int ((r + 21 : Nat) : Int)]) (.bl true) true = true := by decide +kernel
 set_option maxHeartbeats 0 in
theorem k20_talks_8 : ∀ r : Nat, r < 3 → outB (c__law_talks_right_v2 [.int ((r + 24 : Nat) : Int)]) (.bl true) true = true := by decide +kernel
 set_option maxHeartbeats 0 in
theorem k20_talks_9 : ∀ r : Nat, r < 3 → outB (c__law_talks_right_v2 [.int ((r + 27 : Nat) : Int)]) (.bl true) true = true := by decide +kernel
 set_option maxHeartbeats 0 in
theorem k20_talks_10 : ∀ r : Nat, r < 3 → outB (c__law_talks_right_v2 [.int ((r + 30 : Nat) : Int)]) (.bl true) true = true := by decide +kernel
 set_option maxHeartbeats 0 in
theorem k20_talks_11 : ∀ r : Nat, r < 3 → outB (c__law_talks_right_v2 [.int ((r + 33 : Nat) : Int)]) (.bl true) true = true := by decide +kernel
 set_option maxHeartbeats 0 in
theorem k20_talks_12 : ∀ r : Nat, r < 3 → outB (c__law_talks_right_v2 [.int ((r + 36 : Nat) : Int)]) (.bl true) true = true := by decide +kernel
 set_option maxHeartbeats 0 in
theorem k20_talks_13 : ∀ r : Nat, r < 3 → outB (c__law_talks_right_v2 [.int ((r + 39 : Nat) : Int)]) (.bl true) true = true := by decide +kernel
 set_option maxHeartbeats 0 in
theorem k20_talks_14 : ∀ r : Nat, r < 3 → outB (c__law_talks_right_v2 [.int ((r + 42 : Nat) : Int)]) (.bl true) true = true := by decide +kernel
 set_option maxHeartbeats 0 in
theorem k20_talks_15 : ∀ r : Nat, r < 3 → outB (c__law_talks_right_v2 [.int ((r + 45 : Nat) : Int)]) (.bl true) true = true := by decide +kernel
 set_option maxHeartbeats 0 in
theorem k20_talks_16 : ∀ r : Nat, r < 3 → outB (c__law_talks_right_v2 [.int ((r + 48 : Nat) : Int)]) (.bl true) true = true := by decide +kernel
 set_option maxHeartbeats 0 in
theorem k20_talks_17 : ∀ r : Nat, r < 3 → outB (c__law_talks_right_v2 [.int ((r + 51 : Nat) : Int)]) (.bl true) true = true := by decide +kernel
 set_option maxHeartbeats 0 in
theorem k20_talks_18 : ∀ r : Nat, r < 3 → outB (c__law_talks_right_v2 [.int ((r + 54 : Nat) : Int)]) (.bl true) true = true := by decide +kernel
 set_option maxHeartbeats 0 in
theorem k20_talks_19 : ∀ r : Nat, r < 3 → outB (c__law_talks_right_v2 [.int ((r + 57 : Nat) : Int)]) (.bl true) true = true := by decide +kernel
theorem k20_talks (r : Nat) (h : r < 60) : outB (c__law_talks_right_v2 [.int r]) (.bl true) true = true := by
  by_cases h0 : r < 3
  · have e := k20_talks_0 (r - 0) (by omega)
    rw [show r - 0 + 0 = r by omega] at e
    exact e
  by_cases h1 : r < 6
  · have e := k20_talks_1 (r - 3) (by omega)
    rw [show r - 3 + 3 = r by omega] at e
    exact e
  by_cases h2 : r < 9
  · have e := k20_talks_2 (r - 6) (by omega)
    rw [show r - 6 + 6 = r by omega] at e
    exact e
  by_cases h3 : r < 12
  · have e := k20_talks_3 (r - 9) (by omega)
    rw [show r - 9 + 9 = r by omega] at e
    exact e
  by_cases h4 : r < 15
  · have e := k20_talks_4 (r - 12) (by omega)
    rw [show r - 12 + 12 = r by omega] at e
    exact e
  by_cases h5 : r < 18
  · have e := k20_talks_5 (r - 15) (by omega)
    rw [show r - 15 + 15 = r by omega] at e
    exact e
  by_cases h6 : r < 21
  · have e := k20_talks_6 (r - 18) (by omega)
    rw [show r - 18 + 18 = r by omega] at e
    exact e
  by_cases h7 : r < 24
  · have e := k20_talks_7 (r - 21) (by omega)
    rw [show r - 21 + 21 = r by omega] at e
    exact e
  by_cases h8 : r < 27
  · have e := k20_talks_8 (r - 24) (by omega)
    rw [show r - 24 + 24 = r by omega] at e
    exact e
  by_cases h9 : r < 30
  · have e := k20_talks_9 (r - 27) (by omega)
    rw [show r - 27 + 27 = r by omega] at e
    exact e
  by_cases h10 : r < 33
  · have e := k20_talks_10 (r - 30) (by omega)
    rw [show r - 30 + 30 = r by omega] at e
    exact e
  by_cases h11 : r < 36
  · have e := k20_talks_11 (r - 33) (by omega)
    rw [show r - 33 + 33 = r by omega] at e
    exact e
  by_cases h12 : r < 39
  · have e := k20_talks_12 (r - 36) (by omega)
    rw [show r - 36 + 36 = r by omega] at e
    exact e
  by_cases h13 : r < 42
  · have e := k20_talks_13 (r - 39) (by omega)
    rw [show r - 39 + 39 = r by omega] at e
    exact e
  by_cases h14 : r < 45
  · have e := k20_talks_14 (r - 42) (by omega)
    rw [show r - 42 + 42 = r by omega] at e
    exact e
  by_cases h15 : r < 48
  · have e := k20_talks_15 (r - 45) (by omega)
    rw [show r - 45 + 45 = r by omega] at e
    exact e
  by_cases h16 : r < 51
  · have e := k20_talks_16 (r - 48) (by omega)
    rw [show r - 48 + 48 = r by omega] at e
    exact e
  by_cases h17 : r < 54
  · have e := k20_talks_17 (r - 51) (by omega)
    rw [show r - 51 + 51 = r by omega] at e
    exact e
  by_cases h18 : r < 57
  · have e := k20_talks_18 (r - 54) (by omega)
    rw [show r - 54 + 54 = r by omega] at e
    exact e
  by_cases h19 : r < 60
  · have e := k20_talks_19 (r - 57) (by omega)
    rw [show r - 57 + 57 = r by omega] at e
    exact e
  omega
end PV

namespace PV
open PySem PySem.Spec L2
 set_option maxHeartbeats 0 in
theorem k20_parents_0 : ∀ r : Nat, r < 6 → outB (c__law_parents_right [.int ((r + 0 : Nat) : Int)]) (.bl true) true = true := by decide +kernel
 set_option maxHeartbeats 0 in
theorem k20_parents_1 : ∀ r : Nat, r < 6 → outB (c__law_parents_right [.int ((r + 6 : Nat) : Int)]) (.bl true) true = true := by decide +kernel
 set_option maxHeartbeats 0 in
theorem k20_parents_2 : ∀ r : Nat, r < 6 → outB (c__law_parents_right [.int ((r + 12 : Nat) : Int)]) (.bl true) true = true := by decide +kernel
 set_option maxHeartbeats 0 in
theorem k20_parents_3 : ∀ r : Nat, r < 6 → outB (c__law_parents_right [.int ((r + 18 : Nat) : Int)]) (.bl true) true = true := by decide +kernel
 set_option maxHeartbeats 0 in
theorem k20_parents_4 : ∀ r : Nat, r < 6 → outB (c__law_parents_right [.int ((r + 24 : Nat) : Int)]) (.bl true) true = true := by decide +kernel
 set_option maxHeartbeats 0 in
theorem k20_parents_5 : ∀ r : Nat, r < 6 → outB (c__law_parents_right [.int ((r + 30 : Nat) : Int)]) (.bl true) true = true := by decide +kernel
 set_option maxHeartbeats 0 in
theorem k20_parents_6 : ∀ r : Nat, r < 6 → outB (c__law_parents_right [.int ((r + 36 : Nat) : Int)]) (.bl true) true = true := by decide +kernel
 set_option maxHeartbeats 0 in
theorem k20_parents_7 : ∀ r : Nat, r < 6 → outB (c__law_parents_right [.int ((r + 42 : Nat) : Int)]) (.bl true) true = true := by decide +kernel
 set_option maxHeartbeats 0 in
theorem k20_parents_8 : ∀ r : Nat, r < 6 → outB (c__law_parents_right [.int ((r + 48 : Nat) : Int)]) (.bl true) true = true := by decide +kernel
 set_option maxHeartbeats 0 in
theorem k20_parents_9 : ∀ r : Nat, r < 6 → outB (c__law_parents_right [.int ((r + 54 : Nat) : Int)]) (.bl true) true = true := by decide +kernel
theorem k20_parents (r : Nat) (h : r < 60) : outB (c__law_parents_right [.int r]) (.bl true) true = true := by
  by_cases h0 : r < 6
  · have e := k20_parents_0 (r - 0) (by omega)
    rw [show r - 0 + 0 = r by omega] at e
    exact e
  by_cases h1 : r < 12
  · have e := k20_parents_1 (r - 6) (by omega)
    rw [show r - 6 + 6 = r by omega] at e
    exact e
  by_cases h2 : r < 18
  · have e := k20_parents_2 (r - 12) (by omega)
    rw [show r - 12 + 12 = r by omega] at e
    exact e
  by_cases h3 : r < 24
  · have e := k20_parents_3 (r - 18) (by omega)
    rw [show r - 18 + 18 = r by omega] at e
    exact e
  by_cases h4 : r < 30
  · have e := k20_parents_4 (r - 24) (by omega)
    rw [show r - 24 + 24 = r by omega] at e
    exact e
  by_cases h5 : r < 36
  · have e := k20_parents_5 (r - 30) (by omega)
    rw [show r - 30 + 30 = r by omega] at e
    exact e
  by_cases h6 : r < 42
  · have e := k20_parents_6 (r - 36) (by omega)
    rw [show r - 36 + 36 = r by omega] at e
    exact e
  by_cases h7 : r < 48
  · have e := k20_parents_7 (r - 42) (by omega)
    rw [show r - 42 + 42 = r by omega] at e
    exact e
  by_cases h8 : r < 54
  · have e := k20_parents_8 (r - 48) (by omega)
    rw [show r - 48 + 48 = r by omega] at e
    exact e
  by_cases h9 : r < 60
  · have e := k20_parents_9 (r - 54) (by omega)
    rw [show r - 54 + 54 = r by omega] at e
    exact e
  omega
end PV

namespace PV
open PySem PySem.Spec L2
 set_option maxHeartbeats 0 in
theorem k20_rows_0 : ∀ r : Nat, r < 6 → outB (c__law_rows_right_v4 [.int ((r + 0 : Nat) : Int)]) (.bl true) true = true := by decide +kernel
 set_option maxHeartbeats 0 in
theorem k20_rows_1 : ∀ r : Nat, r < 6 → outB (c__law_rows_right_v4 [.int ((r + 6 : Nat) : Int)]) (.bl true) true = true := by decide +kernel
 set_option maxHeartbeats 0 in
theorem k20_rows_2 : ∀ r : Nat, r < 6 → outB (c__law_rows_right_v4 [.int ((r + 12 : Nat) : Int)]) (.bl true) true = true := by decide +kernel
 set_option maxHeartbeats 0 in
theorem k20_rows_3 : ∀ r : Nat, r < 6 → outB (c__law_rows_right_v4 [.int ((r + 18 : Nat) : Int)]) (.bl true) true = true := by decide +kernel
 set_option maxHeartbeats 0 in
theorem k20_rows_4 : ∀ r : Nat, r < 6 → outB (c__law_rows_right_v4 [.int ((r + 24 : Nat) : Int)]) (.bl true) true = true := by decide +kernel
 set_option maxHeartbeats 0 in
theorem k20_rows_5 : ∀ r : Nat, r < 6 → outB (c__law_rows_right_v4 [.int ((r + 30 : Nat) : Int)]) (.bl true) true = true := by decide +kernel
 set_option maxHeartbeats 0 in
theorem k20_rows_6 : ∀ r : Nat, r < 6 → outB (c__law_rows_right_v4 [.int ((r + 36 : Nat) : Int)]) (.bl true) true = true := by decide +kernel
 set_option maxHeartbeats 0 in
theorem k20_rows_7 : ∀ r : Nat, r < 6 → outB (c__law_rows_right_v4 [.int ((r + 42 : Nat) : Int)]) (.bl true) true = true := by decide +kernel
 set_option maxHeartbeats 0 in
theorem k20_rows_8 : ∀ r : Nat, r < 6 → outB (c__law_rows_right_v4 [.int ((r + 48 : Nat) : Int)]) (.bl true) true = true := by decide +kernel
 set_option maxHeartbeats 0 in
theorem k20_rows_9 : ∀ r : Nat, r < 6 → outB (c__law_rows_right_v4 [.int ((r + 54 : Nat) : Int)]) (.bl true) true = true := by decide +kernel
theorem k20_rows (r : Nat) (h : r < 60) : outB (c__law_rows_right_v4 [.int r]) (.bl true) true = true := by
  by_cases h0 : r < 6
  · have e := k20_rows_0 (r - 0) (by omega)
    rw [show r - 0 + 0 = r by omega] at e
    exact e
  by_cases h1 : r < 12
  · have e := k20_rows_1 (r - 6) (by omega)
    rw [show r - 6 + 6 = r by omega] at e
    exact e
  by_cases h2 : r < 18
  · have e := k20_rows_2 (r - 12) (by omega)
    rw [show r - 12 + 12 = r by omega] at e
    exact e
  by_cases h3 : r < 24
  · have e := k20_rows_3 (r - 18) (by omega)
    rw [show r - 18 + 18 = r by omega] at e
    exact e
  by_cases h4 : r < 30
  · have e := k20_rows_4 (r - 24) (by omega)
    rw [show r - 24 + 24 = r by omega] at e
    exact e
  by_cases h5 : r < 36
  · have e := k20_rows_5 (r - 30) (by omega)
    rw [show r - 30 + 30 = r by omega] at e
    exact e
  by_cases h6 : r < 42
  · have e := k20_rows_6 (r - 36) (by omega)
    rw [show r - 36 + 36 = r by omega] at e
    exact e
  by_cases h7 : r < 48
  · have e := k20_rows_7 (r - 42) (by omega)
    rw [show r - 42 + 42 = r by omega] at e
    exact e
  by_cases h8 : r < 54
  · have e := k20_rows_8 (r - 48) (by omega)
    rw [show r - 48 + 48 = r by omega] at e
    exact e
  by_cases h9 : r < 60
  · have e := k20_rows_9 (r - 54) (by omega)
    rw [show r - 54 + 54 = r by omega] at e
    exact e
  omega
end PV

namespace PV
open PySem PySem.Spec L2
def pvs_K20 := And.intro @e_bok <| And.intro @e_bexc <| And.intro @fin_rt <| And.intro @fin_nx <| And.intro @fin_exc <| And.intro @run1 <| And.intro @run2 <| And.intro @run3 <| And.intro @run4 <| And.intro @e_seq <| And.intro @e_seq_nx <| And.intro @e_seq_rt <| And.intro @e_seq_bk <| And.intro @e_seq_ct <| And.intro @e_nil <| And.intro @e_pass <| And.intro @e_brk <| And.intro @e_cnt <| And.intro @e_retN <| And.intro @e_raise <| And.intro @e_drop <| And.intro @e_drop1 <| And.intro @e_ret <| And.intro @take_flat <| And.intro @e_ret_deep <| And.intro @e_ret_one <| And.intro @e_ret_none <| And.intro @e_if <| And.intro @e_if_t <| And.intro @e_if_f <| And.intro @e_set <| And.intro @e_set_deep <| And.intro @e_set_none <| And.intro @e_down_nil <| And.intro @e_wipe_nil <| And.intro @e_wipe <| And.intro @e_c <| And.intro @e_slot0 <| And.intro @e_slotS <| And.intro @e_var <| And.intro @e_var1 <| And.intro @e_rv_int <| And.intro @e_rv_str <| And.intro @e_rv_bl <| And.intro @e_rv_non <| And.intro @e_rv_lstD <| And.intro @e_rv_lstR <| And.intro @e_rv_lstS <| And.intro @e_rv_dicD <| And.intro @e_rv_dicR <| And.intro @e_rv_dicS <| And.intro @e_bin <| And.intro @e_bin1 <| And.intro @e_one <| And.intro @e_tOf <| And.intro @e_toB <| And.intro @e_tNot <| And.intro @e_tNot1 <| And.intro @e_tAnd <| And.intro @e_tOr <| And.intro @e_tAnd_t <| And.intro @e_tAnd_f <| And.intro @e_tOr_t <| And.intro @e_tOr_f <| And.intro @e_and <| And.intro @e_or <| And.intro @e_and_t <| And.intro @e_and_f <| And.intro @e_or_t <| And.intro @e_or_f <| And.intro @e_not <| And.intro @e_not1 <| And.intro @e_neg <| And.intro @e_neg1 <| And.intro @e_ife <| And.intro @e_ife_t <| And.intro @e_ife_f <| And.intro @e_aNil <| And.intro @e_aCons <| And.intro @e_aCons1 <| And.intro @e_aCons2 <| And.intro @e_tup <| And.intro @e_lst <| And.intro @e_tup1 <| And.intro @e_lst1 <| And.intro @e_src0 <| And.intro @e_srcS <| And.intro @e_mv0 <| And.intro @e_mvS <| And.intro @e_mvN <| And.intro @e_mvC <| And.intro @e_mvC0 <| And.intro @e_add_i <| And.intro @e_add_s <| And.intro @e_add_l <| And.intro @e_sub <| And.intro @e_mod <| And.intro @e_fdv <| And.intro @e_mul <| And.intro @e_mul_s <| And.intro @e_pow18 <| And.intro @e_lt <| And.intro @e_le <| And.intro @e_gt <| And.intro @e_ge <| And.intro @e_eq <| And.intro @e_ne <| And.intro @e_eq1 <| And.intro @e_ne1 <| And.intro @eqF_s <| And.intro @eqF_i <| And.intro @eqF_b <| And.intro @eqF_ln <| And.intro @eqF_rn <| And.intro @e_in_s <| And.intro @e_in_l <| And.intro @e_in_r <| And.intro @e_in_t <| And.intro @e_in_d <| And.intro @e_in1 <| And.intro @e_rsB_f <| And.intro @e_rsB_t <| And.intro @e_pick_s <| And.intro @e_pick_i <| And.intro @e_pick_b <| And.intro @e_pick_l <| And.intro @e_pick_d <| And.intro @e_subs_l <| And.intro @e_subs_r <| And.intro @e_subs_t <| And.intro @e_subs_s <| And.intro @e_subs_d <| And.intro @e_subs1 <| And.intro @e_subsS <| And.intro @e_oNone <| And.intro @e_oSome <| And.intro @e_oSome1 <| And.intro @e_sl <| And.intro @e_sl1 <| And.intro @e_sl2 <| And.intro @e_sl_s <| And.intro @e_sl_l <| And.intro @e_sl_r <| And.intro @e_newL <| And.intro @e_newN <| And.intro @e_len_l <| And.intro @e_len_r <| And.intro @e_len_t <| And.intro @e_len_d <| And.intro @e_len_s <| And.intro @e_sum <| And.intro @e_all <| And.intro @e_any <| And.intro @e_m1 <| And.intro @e_m11 <| And.intro @e_startsw <| And.intro @e_strip <| And.intro @e_lstrip <| And.intro @e_split <| And.intro @e_join <| And.intro @e_iOf <| And.intro @e_it_l <| And.intro @e_it_r <| And.intro @e_it_t <| And.intro @e_it_s <| And.intro @e_range1 <| And.intro @e_rg1 <| And.intro @e_for <| And.intro @e_for1 <| And.intro @e_tTrue <| And.intro @e_step <| And.intro @e_step_t <| And.intro @e_step_f <| And.intro @e_step2 <| And.intro @e_bind1 <| And.intro @e_call <| And.intro @e_call1 <| And.intro @e_call_s <| And.intro @e_call_i <| And.intro @e_call_b <| And.intro @e_call_n <| And.intro @e_call_l <| And.intro @e_call_d <| And.intro @e_isi_s <| And.intro @e_cut_hi <| And.intro @e_cut_lo <| And.intro @e_cut_mid <| And.intro @e_cut_last <| And.intro @e_cut_init <| And.intro @e_rv_rol <| And.intro @e_par <| And.intro @e_par2 <| And.intro @e_par3 <| And.intro @e_wh1_t <| And.intro @e_wh1_f <| And.intro @e_wh2_nx <| And.intro @e_wh2_ct <| And.intro @e_wh2_bk <| And.intro @e_wh2_rt <| And.intro @e_sorted_s <| And.intro @e_list_d <| And.intro @e_sorted_t <| And.intro @e_sortSet_s <| And.intro @e_lenSet_s <| And.intro @e_min_s <| And.intro @e_max_i <| And.intro @e_chain <| And.intro @e_chain1 <| And.intro @e_chain2 <| And.intro @e_chain_t <| And.intro @e_chain_f <| And.intro @e_isi_l <| And.intro @e_isi_t <| And.intro @e_isi_ss <| And.intro @e_rv_tupF <| And.intro @e_rv_tupS <| And.intro @e_rv_tupD <| And.intro @e_pick_tF <| And.intro @e_pick_tS <| And.intro @e_call_tF <| And.intro @e_call_lS <| And.intro @e_flat0 <| And.intro @e_flat_s <| And.intro @e_flat_i <| And.intro @e_flat_b <| And.intro @e_flat_n <| And.intro @e_flat_l <| And.intro @e_newLs <| And.intro @e_newLi <| And.intro @e_at0 <| And.intro @e_at1 <| And.intro @e_at2 <| And.intro @e_at3 <| And.intro @e_atL <| And.intro @e_subs_map <| And.intro @e_put <| And.intro @e_get2 <| And.intro @e_lm <| And.intro @e_lidx <| And.intro @e_lcnt <| And.intro @e_max2 <| And.intro @e_cont <| And.intro @e_any_ss <| And.intro @e_in_ss <| And.intro @e_in_dd <| And.intro @e_rev_l <| And.intro @e_list_l <| And.intro @e_ne0 <| And.intro @e_dic0 <| And.intro @e_down_cons <| And.intro @e_down_some <| And.intro @e_down_none <| And.intro @e_unp <| And.intro @e_unp2 <| And.intro @e_unp3 <| And.intro @e_keys <| And.intro @e_bindL0 <| And.intro @e_bindLS <| And.intro @e_rv_fDD <| And.intro @e_rv_fDR <| And.intro @e_rv_fDS <| And.intro @e_call_fD <| And.intro @e_in_fD <| And.intro @e_list_fD <| And.intro @e_len_fD <| And.intro @e_dict_fD <| And.intro @e_sub_fD <| And.intro @e_rv_ltsD <| And.intro @e_rv_ltsR <| And.intro @e_rv_ltsS <| And.intro @e_call_lts <| And.intro @e_rv_prsD <| And.intro @e_rv_prsS <| And.intro @e_call_prs <| And.intro @e_isi_lts <| And.intro @e_isi_prs <| And.intro @e_len_lts <| And.intro @e_sorted_lt <| And.intro @e_sorted_pr <| And.intro @List.length_cons.{0} <| And.intro @List.length_map.{0,0} <| And.intro @List.length_nil.{0} <| And.intro @List.map_cons.{0,0} <| And.intro @List.map_nil.{0,0} <| And.intro @List.replicate_succ.{0} <| And.intro @List.replicate_zero.{0} <| And.intro @List.set_cons_zero.{0} <| And.intro @List.set_cons_succ.{0} <| And.intro @List.cons_append.{0} <| And.intro @List.nil_append.{0} <| And.intro @List.append_nil.{0} <| And.intro @Nat.zero_add <| And.intro @Nat.add_zero <| And.intro @Nat.zero_lt_succ <| And.intro @Nat.lt_add_left_iff_pos <| @Nat.succ_pos
theorem k20_t : c__law_titles_right [] = .ok (.bl true, true) := outB_eq (by decide +kernel)
theorem k20_d : c__law_desk_right_v2 [] = .ok (.bl true, true) := outB_eq (by decide +kernel)
theorem law_true : LawTrue c_law := by
  intro ns hl hb
  refine ⟨true, ?_⟩
  let S : Dat := .rol (ns.map .int)
  let E0 : Sto := [some (S, .shr), none]
  obtain ⟨W, hW⟩ : ∃ W : Int, fOne gAbs (fOne gSum (fSl (fVar 0) oNone (oSome (fC (.int 3))))) E0 = .ok ⟨.int W, false, [], some []⟩ := by
    have l1 : ns.length ≤ 1000000 := by omega
    have l3 : (ns.map Dat.int).take (3 : Int).toNat = (ns.take 3).map Dat.int := by
      rw [List.map_take]
      rfl
    have l4 : (0 : Int) ≤ 3 := by decide
    have h0 : slot E0 0 = some (.rol (ns.map .int), .shr) := rfl
    have hs : fOne gSum (fSl (fVar 0) oNone (oSome (fC (.int 3)))) E0 = .ok ⟨.int (ns.take 3).sum, false, [], some []⟩ := by
      simp only [pvs_K20, Nat.reduceSub, Nat.reduceAdd, Nat.reduceLT, Nat.reduceLeDiff, Nat.reduceEqDiff, decide_true, decide_false, Bool.not_true, Bool.not_false, reduceCtorEq, eq_self, if_true, if_false, h0, l1, l3, l4, e_newL (flat_ints _), e_sum]
    refine ⟨if (ns.take 3).sum < 0 then -(ns.take 3).sum else (ns.take 3).sum, ?_⟩
    rw [e_one, hs, bind_ok]
    rfl
  obtain ⟨r, hr, h60⟩ : ∃ r : Nat, W % 60 = (r : Int) ∧ r < 60 := by
    have := Int.emod_nonneg W (show (60 : Int) ≠ 0 by decide)
    have := Int.emod_lt_of_pos W (show (0 : Int) < 60 by decide)
    exact ⟨(W % 60).toNat, by omega, by omega⟩
  have hm : fBin gMod (fOne gAbs (fOne gSum (fSl (fVar 0) oNone (oSome (fC (.int 3)))))) (fC (.int 60)) E0 = .ok ⟨.int r, false, [], some []⟩ := by
    rw [e_bin, hW, bind_ok, e_bin1, e_c, bind_ok, e_mod (by decide), hr]
  obtain ⟨s1, k1, h1⟩ := v_setD (x := []) (keep := false) (i := 1) hm (show (1 : Nat) < 2 by decide) (by decide)
  generalize E0.set 1 (some (.int r, .deep)) = E1 at s1 k1 h1
  have q1 : Val (fCall 1 c__law_parents_right (aCons (fVar 1) aNil)) E1 (.bl true) := v_call (v_cons (v_var h1) v_nil) rfl (outB_eq (k20_parents r h60))
  have q2 : Val (fCall 0 c__law_titles_right aNil) E1 (.bl true) := v_call v_nil rfl k20_t
  have q3 : Val (fCall 1 c__law_talks_right_v2 (aCons (fVar 1) aNil)) E1 (.bl true) := v_call (v_cons (v_var h1) v_nil) rfl (outB_eq (k20_talks r h60))
  have q4 : fCall 1 c__law_rows_right_v4 (aCons (fVar 1) aNil) E1 = .ok ⟨.bl true, false, [], some []⟩ := by
    obtain ⟨k, hk⟩ := h1.var
    have hk : fVar 1 E1 = .ok ⟨.int r, false, [], some []⟩ := h1.int
    rw [e_call, e_aCons, hk, bind_ok, e_aCons1, e_aNil, bind_ok, e_aCons2, bind_ok, e_call1 (n := 1) (rs := [_]) rfl]
    show (c__law_rows_right_v4 [.int r]).bind _ = _
    rw [outB_eq (k20_rows r h60), bind_ok]
    rfl
  have q5 : fCall 0 c__law_desk_right_v2 aNil E1 = .ok ⟨.bl true, false, [], some []⟩ := by
    rw [e_call, e_aNil, bind_ok, e_call1 (n := 0) (rs := []) rfl]
    show (c__law_desk_right_v2 []).bind _ = _
    rw [k20_d, bind_ok]
    rfl
  have e5 : c_law [S] = fin (g_law E0) := rfl
  show c_law [S] = _
  rw [e5]
  unfold g_law
  rw [e_seq, s1, bind_ok, e_seq_nx, e_seq, e_if, e_tOr, e_tNot, v_t q1, bind_ok, e_tNot1, bind_ok, Bool.not_true, e_tOr_f, e_tOr, e_tNot, v_t q2, bind_ok, e_tNot1, bind_ok, Bool.not_true, e_tOr_f, e_tNot, v_t q3, bind_ok, e_tNot1, bind_ok, Bool.not_true, e_if_f, e_nil, bind_ok, e_seq_nx, e_ret, e_and, q4, bind_ok, e_and_t, q5, bind_ok, e_ret_deep]
  rfl
end PV

namespace PV
open PySem PySem.Spec L2
section
def top (i : Nat) : Stmt := PySem.Challenge.pw_replythread_k20_promises_by_hand.main.body.getD i (.Pass ⟨0, 0, 0, 0⟩)
def mth (i j : Nat) : Stmt := match top i with | .ClassDef _ _ _ b _ _ _ _ _ _ _ => b.getD j (.Pass ⟨0, 0, 0, 0⟩) | _ => .Pass ⟨0, 0, 0, 0⟩
structure Txt (K : PySem.W.Frag) (mg : Str → Option Value) : Prop where
  d_Apart : ∃ D, mg (mkS [65, 112, 97, 114, 116]) = some (.ref D)
  d_Forest : ∃ D, mg (mkS [70, 111, 114, 101, 115, 116]) = some (.ref D)
  d_Wrong : ∃ D, mg (mkS [87, 114, 111, 110, 103]) = some (.ref D)
  e_BadLetter : ExcK K mg "BadLetter"
  e_BadLetters : ExcK K mg "BadLetters"
  e_BadName : ExcK K mg "BadName"
  e_BadRows : ExcK K mg "BadRows"
  e_BadTitle : ExcK K mg "BadTitle"
  e_Known : ExcK K mg "Known"
  e_TooMany : ExcK K mg "TooMany"
  g_LONGEST_NAME : ∃ t, mg "LONGEST_NAME" = some (.int 3 t)
  g_LONGEST_ROW : ∃ t, mg "LONGEST_ROW" = some (.int 40 t)
  g_LONGEST_TITLE : ∃ t, mg "LONGEST_TITLE" = some (.int 12 t)
  g_MOST : ∃ t, mg "MOST" = some (.int 9 t)
  g_MOST_ANSWERS : ∃ t, mg "MOST_ANSWERS" = some (.int 4 t)
  g_MOST_ROWS : ∃ t, mg "MOST_ROWS" = some (.int 20 t)
  g_SIGNS : ∃ t, mg "SIGNS" = some (.str "abcdefghijklmnopqrstuvwxyz" t)
  n_abs : mg "abs" = none
  n_all : mg "all" = none
  n_any : mg "any" = none
  n_enumerate : mg "enumerate" = none
  n_isinstance : mg "isinstance" = none
  n_len : mg "len" = none
  n_list : mg "list" = none
  n_min : mg "min" = none
  n_range : mg "range" = none
  n_set : mg "set" = none
  n_sorted : mg "sorted" = none
  n_str : mg "str" = none
  n_sum : mg "sum" = none
  n_tuple : mg "tuple" = none
  n_zip : mg "zip" = none
  q_Apart_Apart : IsiK K mg [65, 112, 97, 114, 116] [65, 112, 97, 114, 116] true
  q_Apart_Forest : IsiK K mg [65, 112, 97, 114, 116] [70, 111, 114, 101, 115, 116] false
  q_Apart_Wrong : IsiK K mg [65, 112, 97, 114, 116] [87, 114, 111, 110, 103] false
  q_Desk_Apart : IsiK K mg [68, 101, 115, 107] [65, 112, 97, 114, 116] false
  q_Desk_Forest : IsiK K mg [68, 101, 115, 107] [70, 111, 114, 101, 115, 116] false
  q_Desk_Wrong : IsiK K mg [68, 101, 115, 107] [87, 114, 111, 110, 103] false
  q_Forest_Apart : IsiK K mg [70, 111, 114, 101, 115, 116] [65, 112, 97, 114, 116] false
  q_Forest_Forest : IsiK K mg [70, 111, 114, 101, 115, 116] [70, 111, 114, 101, 115, 116] true
  q_Forest_Wrong : IsiK K mg [70, 111, 114, 101, 115, 116] [87, 114, 111, 110, 103] false
  q_Together_Apart : IsiK K mg [84, 111, 103, 101, 116, 104, 101, 114] [65, 112, 97, 114, 116] false
  q_Together_Forest : IsiK K mg [84, 111, 103, 101, 116, 104, 101, 114] [70, 111, 114, 101, 115, 116] false
  q_Together_Wrong : IsiK K mg [84, 111, 103, 101, 116, 104, 101, 114] [87, 114, 111, 110, 103] false
  q_Wrong_Apart : IsiK K mg [87, 114, 111, 110, 103] [65, 112, 97, 114, 116] false
  q_Wrong_Forest : IsiK K mg [87, 114, 111, 110, 103] [70, 111, 114, 101, 115, 116] false
  q_Wrong_Wrong : IsiK K mg [87, 114, 111, 110, 103] [87, 114, 111, 110, 103] true
  t_lying_Desk : AttK K mg "lying" [68, 101, 115, 107]
  t_names_Apart : AttK K mg "names" [65, 112, 97, 114, 116]
  t_path_Together : AttK K mg "path" [84, 111, 103, 101, 116, 104, 101, 114]
  t_row_Wrong : AttK K mg "row" [87, 114, 111, 110, 103]
  t_ties_Forest : AttK K mg "ties" [70, 111, 114, 101, 115, 116]
  x_BadTitle_BadTitle_BadTitle : CatK K mg "BadTitle" "BadTitle" [66, 97, 100, 84, 105, 116, 108, 101] true
variable {P : Program} {w : World} {K : PySem.W.Frag} {mg : Str → Option Value} {base : Heap} {f : Addr} {fd : FuncData}
abbrev s__wall : Stmt := top 0
theorem sc__wall : FnScope ["k"] ["k"] (defScope s__wall) := ⟨rfl, rfl, rfl, by decide +kernel, rfl, by decide +kernel, by decide +kernel⟩
theorem ok__wall (T : Txt K mg) (F : Fun K "_wall" "_wall" s__wall f fd) (g : mg "_wall" = some (.ref f)) (b : Binds K fd ["k"] []) : DefP P w K mg base 1 "_wall" 1 c__wall :=
  DefP.mk F (fn_pv (k := 0) F sc__wall rfl (fun cdv A outer s H E C tk po =>
  ess_one (es_while 1000 po (et_of ev_bl) (ess_one es_pass)))) g b
abbrev s_is_name : Stmt := top 16
theorem sc_is_name : FnScope ["thing", "sign"] ["thing"] (defScope s_is_name) := ⟨rfl, rfl, rfl, by decide +kernel, rfl, by decide +kernel, by decide +kernel⟩
theorem ok_is_name (T : Txt K mg) (F : Fun K "is_name" "is_name" s_is_name f fd) (g : mg "is_name" = some (.ref f)) (b : Binds K fd ["thing"] []) : DefP P w K mg base 1 "is_name" 1 c_is_name :=
  DefP.mk F (fn_pv (k := 0) F sc_is_name rfl (fun cdv A outer s H E C tk po =>
  ess_one (es_ret (ev_and (ev_isiB T.n_isinstance (ev_var 0) T.n_str boot_str ty_str) (ev_and (ev_leLe ev_int (ev_len T.n_len (ev_var 0)) (ev_kInt T.g_LONGEST_NAME)) (ev_one (ev_all C T.n_all (ev_comp C (own := [("sign", 1)]) (T := (.one 1)) (ft := tTrue) (fe := y_is_name_1) ⟨by decide, (ei_of (ev_var 0)).pi, blkOk_by (by rfl), fun s H C1 cl fp => tg_one (XOk.blk C) (i := 1), fun s H C1 cl fp => pts_true, fun s H C1 cl fp => (ev_in ((XOk.blk C)) (ev_var 1) (ev_kStr T.g_SIGNS)).pe⟩)))))))) g b
abbrev s_is_title : Stmt := top 17
theorem sc_is_title : FnScope ["thing", "sign"] ["thing"] (defScope s_is_title) := ⟨rfl, rfl, rfl, by decide +kernel, rfl, by decide +kernel, by decide +kernel⟩
theorem ok_is_title (T : Txt K mg) (F : Fun K "is_title" "is_title" s_is_title f fd) (g : mg "is_title" = some (.ref f)) (b : Binds K fd ["thing"] []) : DefP P w K mg base 1 "is_title" 1 c_is_title :=
  DefP.mk F (fn_pv (k := 0) F sc_is_title rfl (fun cdv A outer s H E C tk po =>
  ess_cons (es_if (Ew.et (ew_or (et_not (et_of (ev_isiB T.n_isinstance (ev_var 0) T.n_str boot_str ty_str))) (ew_or1 (et_gt (ev_len T.n_len (ev_var 0)) (ev_kInt T.g_LONGEST_TITLE))))) (ess_one (es_ret ev_bl)) ess_nil)
  (ess_one (es_ret (ev_all C T.n_all (ev_comp C (own := [("sign", 1)]) (T := (.one 1)) (ft := tTrue) (fe := y_is_title_1) ⟨by decide, (ei_of (ev_var 0)).pi, blkOk_by (by rfl), fun s H C1 cl fp => tg_one (XOk.blk C) (i := 1), fun s H C1 cl fp => pts_true, fun s H C1 cl fp => (ev_or (ev_in ((XOk.blk C)) (ev_var 1) (ev_kStr T.g_SIGNS)) (ev_one (ev_in ((XOk.blk C)) (ev_var 1) (ev_tup (ea_cons ev_str (ea_cons ev_str ea_nil)))))).pe⟩)))))) g b
abbrev s_is_letter : Stmt := top 18
theorem sc_is_letter : FnScope ["thing", "answers", "name"] ["thing"] (defScope s_is_letter) := ⟨rfl, rfl, rfl, by decide +kernel, rfl, by decide +kernel, by decide +kernel⟩
theorem ok_is_letter (T : Txt K mg) (D_is_name : DefP P w K mg base 1 "is_name" 1 c_is_name) (D_is_title : DefP P w K mg base 1 "is_title" 1 c_is_title) (F : Fun K "is_letter" "is_letter" s_is_letter f fd) (g : mg "is_letter" = some (.ref f)) (b : Binds K fd ["thing"] []) : DefP P w K mg base 2 "is_letter" 1 c_is_letter :=
  DefP.mk F (fn_pv (k := 1) F sc_is_letter rfl (fun cdv A outer s H E C tk po =>
  ess_cons (es_if (Ew.et (ew_or (et_not (et_of (ev_isiB T.n_isinstance (ev_var 0) T.n_tuple boot_tuple ty_tuple))) (ew_or (et_ne (ev_len T.n_len (ev_var 0)) ev_int C) (ew_or (et_not (et_of (ev_call C tk (DefP.at D_is_name) (ea_cons (ev_subs C (ev_var 0) ev_int) ea_nil)))) (ew_or1 (et_not (et_of (ev_call C tk (DefP.at D_is_title) (ea_cons (ev_subs C (ev_var 0) ev_int) ea_nil))))))))) (ess_one (es_ret ev_bl)) ess_nil)
  (ess_cons (es_set false (pasg C (i := 1) (ev_subs C (ev_var 0) ev_int)))
  (ess_cons (es_if (Ew.et (ew_or (et_not (et_of (ev_isiB T.n_isinstance (ev_var 1) T.n_list boot_list ty_list))) (ew_or (et_gt (ev_len T.n_len (ev_var 1)) (ev_kInt T.g_MOST_ANSWERS)) (ew_or1 (et_not (et_of (ev_all C T.n_all (ev_comp C (own := [("name", 2)]) (T := (.one 2)) (ft := tTrue) (fe := y_is_letter_1) ⟨by decide, (ei_of (ev_var 1)).pi, blkOk_by (by rfl), fun s H C1 cl fp => tg_one (XOk.blk C) (i := 2), fun s H C1 cl fp => pts_true, fun s H C1 cl fp => (ev_call (XOk.blk C) takes0 (DefP.at D_is_name) (ea_cons (ev_var 2) ea_nil)).pe⟩)))))))) (ess_one (es_ret ev_bl)) ess_nil)
  (ess_one (es_ret (ev_and (ev_eq C (ev_lenSet C T.n_len T.n_set (ev_var 1)) (ev_len T.n_len (ev_var 1))) (ev_one (ev_notIn C (ev_subs C (ev_var 0) ev_int) (ev_var 1)))))))))) g b
abbrev s_check_letter : Stmt := top 19
theorem sc_check_letter : FnScope ["letter"] ["letter"] (defScope s_check_letter) := ⟨rfl, rfl, rfl, by decide +kernel, rfl, by decide +kernel, by decide +kernel⟩
theorem ok_check_letter (T : Txt K mg) (D_is_letter : DefP P w K mg base 2 "is_letter" 1 c_is_letter) (F : Fun K "check_letter" "check_letter" s_check_letter f fd) (g : mg "check_letter" = some (.ref f)) (b : Binds K fd ["letter"] []) : DefP P w K mg base 3 "check_letter" 1 c_check_letter :=
  DefP.mk F (fn_pv (k := 2) F sc_check_letter rfl (fun cdv A outer s H E C tk po =>
  ess_one (es_if (et_not (et_of (ev_call C tk (DefP.at D_is_letter) (ea_cons (ev_var 0) ea_nil)))) (ess_one (es_raiseK C tk T.e_BadLetter)) ess_nil))) g b
abbrev s_check_letters : Stmt := top 20
theorem sc_check_letters : FnScope ["letters", "letter"] ["letters"] (defScope s_check_letters) := ⟨rfl, rfl, rfl, by decide +kernel, rfl, by decide +kernel, by decide +kernel⟩
theorem ok_check_letters (T : Txt K mg) (D_is_letter : DefP P w K mg base 2 "is_letter" 1 c_is_letter) (F : Fun K "check_letters" "check_letters" s_check_letters f fd) (g : mg "check_letters" = some (.ref f)) (b : Binds K fd ["letters"] []) : DefP P w K mg base 3 "check_letters" 1 c_check_letters :=
  DefP.mk F (fn_pv (k := 2) F sc_check_letters rfl (fun cdv A outer s H E C tk po =>
  ess_cons (es_if (Ew.et (ew_or (et_not (et_of (ev_isiB T.n_isinstance (ev_var 0) T.n_list boot_list ty_list))) (ew_or (et_gt (ev_len T.n_len (ev_var 0)) (ev_kInt T.g_MOST)) (ew_or1 (et_not (et_of (ev_all C T.n_all (ev_comp C (own := [("letter", 1)]) (T := (.one 1)) (ft := tTrue) (fe := y_check_letters_1) ⟨by decide, (ei_of (ev_var 0)).pi, blkOk_by (by rfl), fun s H C1 cl fp => tg_one (XOk.blk C) (i := 1), fun s H C1 cl fp => pts_true, fun s H C1 cl fp => (ev_call (XOk.blk C) takes0 (DefP.at D_is_letter) (ea_cons (ev_var 1) ea_nil)).pe⟩)))))))) (ess_one (es_raiseK C tk T.e_BadLetters)) ess_nil)
  (ess_one (es_if (et_lt (ev_lenSet C T.n_len T.n_set (ev_comp C (own := [("letter", 1)]) (T := (.one 1)) (ft := tTrue) (fe := y_check_letters_2) ⟨by decide, (ei_of (ev_var 0)).pi, blkOk_by (by rfl), fun s H C1 cl fp => tg_one (XOk.blk C) (i := 1), fun s H C1 cl fp => pts_true, fun s H C1 cl fp => (ev_subs (XOk.blk C) (ev_var 1) ev_int).pe⟩)) (ev_len T.n_len (ev_var 0))) (ess_one (es_raiseK C tk T.e_BadLetters)) ess_nil)))) g b
abbrev s_bare_of : Stmt := top 21
theorem sc_bare_of : FnScope ["title", "found", "word"] ["title"] (defScope s_bare_of) := ⟨rfl, rfl, rfl, by decide +kernel, rfl, by decide +kernel, by decide +kernel⟩
theorem ok_bare_of (T : Txt K mg) (F : Fun K "bare_of" "bare_of" s_bare_of f fd) (g : mg "bare_of" = some (.ref f)) (b : Binds K fd ["title"] []) : DefP P w K mg base 1 "bare_of" 1 c_bare_of :=
  DefP.mk F (fn_pv (k := 0) F sc_bare_of rfl (fun cdv A outer s H E C tk po =>
  ess_cons (es_set false (pasg C (i := 1) (ev_join ev_str (ev_comp C (own := [("word", 2)]) (T := (.one 2)) (ft := q_bare_of_1) (fe := y_bare_of_1) ⟨by decide, (ei_of (ev_split (ev_var 0) ev_str)).pi, blkOk_by (by rfl), fun s H C1 cl fp => tg_one (XOk.blk C) (i := 2), fun s H C1 cl fp => pts_of (et_ne (ev_var 2) ev_str ((XOk.blk C))), fun s H C1 cl fp => (ev_var 2).pe⟩))))
  (ess_cons (es_while 1000 po (et_of (ev_startsw (ev_var 1) ev_str)) (ess_one (es_set false (pasg C (i := 1) (ev_strip (ev_sl (ev_var 1) (eo_some ev_int) eo_none) ev_str)))))
  (ess_one (es_ret (ev_var 1)))))) g b
abbrev s_bare : Stmt := top 22
theorem sc_bare : FnScope ["title"] ["title"] (defScope s_bare) := ⟨rfl, rfl, rfl, by decide +kernel, rfl, by decide +kernel, by decide +kernel⟩
theorem ok_bare (T : Txt K mg) (D_is_title : DefP P w K mg base 1 "is_title" 1 c_is_title) (D_bare_of : DefP P w K mg base 1 "bare_of" 1 c_bare_of) (F : Fun K "bare" "bare" s_bare f fd) (g : mg "bare" = some (.ref f)) (b : Binds K fd ["title"] []) : DefP P w K mg base 2 "bare" 1 c_bare :=
  DefP.mk F (fn_pv (k := 1) F sc_bare rfl (fun cdv A outer s H E C tk po =>
  ess_cons (es_if (et_not (et_of (ev_call C tk (DefP.at D_is_title) (ea_cons (ev_var 0) ea_nil)))) (ess_one (es_raiseK C tk T.e_BadTitle)) ess_nil)
  (ess_one (es_ret (ev_call C tk (DefP.at D_bare_of) (ea_cons (ev_var 0) ea_nil)))))) g b
abbrev s_copied : Stmt := top 23
theorem sc_copied : FnScope ["letters", "name", "answers", "title"] ["letters"] (defScope s_copied) := ⟨rfl, rfl, rfl, by decide +kernel, rfl, by decide +kernel, by decide +kernel⟩
theorem ok_copied (T : Txt K mg) (F : Fun K "copied" "copied" s_copied f fd) (g : mg "copied" = some (.ref f)) (b : Binds K fd ["letters"] []) : DefP P w K mg base 1 "copied" 1 c_copied :=
  DefP.mk F (fn_pv (k := 0) F sc_copied rfl (fun cdv A outer s H E C tk po =>
  ess_one (es_ret (ev_comp C (own := [("name", 1), ("answers", 2), ("title", 3)]) (T := (.many [1, 2, 3])) (ft := tTrue) (fe := y_copied_1) ⟨by decide, (ei_of (ev_var 0)).pi, blkOk_by (by rfl), fun s H C1 cl fp => tg_many (XOk.blk C) (is := [1, 2, 3]) (tg_cons (XOk.blk C) (i := 1) (is := [2, 3]) (tg_cons (XOk.blk C) (i := 2) (is := [3]) (tg_cons (XOk.blk C) (i := 3) (is := []) tg_nil))), fun s H C1 cl fp => pts_true, fun s H C1 cl fp => (ev_tup (ea_cons (ev_var 1) (ea_cons (ev_list (XOk.blk C) T.n_list (ev_var 2)) (ea_cons (ev_var 3) ea_nil)))).pe⟩)))) g b
abbrev s_names_of : Stmt := top 25
theorem sc_names_of : FnScope ["letters", "found", "name", "answers", "title"] ["letters"] (defScope s_names_of) := ⟨rfl, rfl, rfl, by decide +kernel, rfl, by decide +kernel, by decide +kernel⟩
theorem ok_names_of (T : Txt K mg) (F : Fun K "names_of" "names_of" s_names_of f fd) (g : mg "names_of" = some (.ref f)) (b : Binds K fd ["letters"] []) : DefP P w K mg base 1 "names_of" 1 c_names_of :=
  DefP.mk F (fn_pv (k := 0) F sc_names_of rfl (fun cdv A outer s H E C tk po =>
  ess_cons (es_set false (pasg C (i := 1) (ev_lst ea_nil)))
  (ess_cons (es_for po C (T := (.many [2, 3, 4])) (ei_of (ev_var 0)) (tg_many C (is := [2, 3, 4]) (tg_cons C (i := 2) (is := [3, 4]) (tg_cons C (i := 3) (is := [4]) (tg_cons C (i := 4) (is := []) tg_nil)))) (ess_one (es_extend (p_var 1) (ev_add (ev_lst (ea_cons (ev_var 2) ea_nil)) (ev_var 3)))))
  (ess_one (es_ret (ev_sortSet C T.n_sorted T.n_set (ev_var 1))))))) g b
abbrev s_told_parent : Stmt := top 26
theorem sc_told_parent : FnScope ["letters", "name", "counts", "other", "answers", "title", "ahead"] ["letters", "name"] (defScope s_told_parent) := ⟨rfl, rfl, rfl, by decide +kernel, rfl, by decide +kernel, by decide +kernel⟩
theorem ok_told_parent (T : Txt K mg) (F : Fun K "told_parent" "told_parent" s_told_parent f fd) (g : mg "told_parent" = some (.ref f)) (b : Binds K fd ["letters", "name"] []) : DefP P w K mg base 1 "told_parent" 2 c_told_parent :=
  DefP.mk F (fn_pv (k := 0) F sc_told_parent rfl (fun cdv A outer s H E C tk po =>
  ess_cons (es_set false (pasg C (i := 2) (ev_dic0)))
  (ess_cons (es_for po C (T := (.many [3, 4, 5])) (ei_of (ev_var 0)) (tg_many C (is := [3, 4, 5]) (tg_cons C (i := 3) (is := [4, 5]) (tg_cons C (i := 4) (is := [5]) (tg_cons C (i := 5) (is := []) tg_nil)))) (ess_one (es_if (et_in (ev_var 1) (ev_sl (ev_var 4) (eo_some ev_int) eo_none) C) (ess_cons (es_set false (pasg C (i := 6) (ev_subs C (ev_var 4) (ev_subI (ev_lidx (ev_var 4) (ev_var 1)) ev_int))))
  (ess_one (es_put C (p_var 2) (ev_var 6) (ev_add (ev_get2 C (ev_var 2) (ev_var 6) (ev_int) ⟨rfl, rfl, rfl, rfl⟩) ev_int)))) ess_nil)))
  (ess_one (es_ret (ev_if (et_ne0 C (ev_var 2) ev_dic0) (ev_subs C (ev_min C T.n_min (ev_compD C 2 (own := [("ahead", 6)]) (T := (.one 6)) (ft := tTrue) (fe := y_told_parent_1) ⟨by decide, blkOk_by (by rfl), fun s H C1 cl fp => tg_one (XOk.blk C) (i := 6), fun s H C1 cl fp => pts_true, fun s H C1 cl fp => (ev_tup (ea_cons (ev_neg (ev_subs (XOk.blk C) (ev_var 2) (ev_var 6))) (ea_cons (ev_var 6) ea_nil))).pe⟩)) ev_int) ev_str)))))) g b
abbrev s_wanted_of : Stmt := top 27
theorem sc_wanted_of : FnScope ["letters", "found", "name", "answers", "title"] ["letters"] (defScope s_wanted_of) := ⟨rfl, rfl, rfl, by decide +kernel, rfl, by decide +kernel, by decide +kernel⟩
theorem ok_wanted_of (T : Txt K mg) (D_names_of : DefP P w K mg base 1 "names_of" 1 c_names_of) (D_told_parent : DefP P w K mg base 1 "told_parent" 2 c_told_parent) (F : Fun K "wanted_of" "wanted_of" s_wanted_of f fd) (g : mg "wanted_of" = some (.ref f)) (b : Binds K fd ["letters"] []) : DefP P w K mg base 2 "wanted_of" 1 c_wanted_of :=
  DefP.mk F (fn_pv (k := 1) F sc_wanted_of rfl (fun cdv A outer s H E C tk po =>
  ess_cons (es_set false (pasg C (i := 1) (ev_dic0)))
  (ess_cons (es_for po C (T := (.many [2, 3, 4])) (ei_of (ev_var 0)) (tg_many C (is := [2, 3, 4]) (tg_cons C (i := 2) (is := [3, 4]) (tg_cons C (i := 3) (is := [4]) (tg_cons C (i := 4) (is := []) tg_nil)))) (ess_one (es_put C (p_var 1) (ev_var 2) (ev_if (et_ne (ev_var 3) (ev_lst ea_nil) C) (ev_subs C (ev_var 3) (ev_neg ev_int)) ev_str))))
  (ess_cons (es_for po C (T := (.one 2)) (ei_of (ev_call C tk (DefP.at D_names_of) (ea_cons (ev_var 0) ea_nil))) (tg_one C (i := 2)) (ess_one (es_if (et_notIn (ev_var 2) (ev_var 1) C) (ess_one (es_put C (p_var 1) (ev_var 2) (ev_call C tk (DefP.at D_told_parent) (ea_cons (ev_var 0) (ea_cons (ev_var 2) ea_nil))))) ess_nil)))
  (ess_one (es_ret (ev_var 1))))))) g b
abbrev s_ring_of : Stmt := top 28
theorem sc_ring_of : FnScope ["wanted", "name", "line"] ["wanted", "name"] (defScope s_ring_of) := ⟨rfl, rfl, rfl, by decide +kernel, rfl, by decide +kernel, by decide +kernel⟩
theorem ok_ring_of (T : Txt K mg) (F : Fun K "ring_of" "ring_of" s_ring_of f fd) (g : mg "ring_of" = some (.ref f)) (b : Binds K fd ["wanted", "name"] []) : DefP P w K mg base 1 "ring_of" 2 c_ring_of :=
  DefP.mk F (fn_pv (k := 0) F sc_ring_of rfl (fun cdv A outer s H E C tk po =>
  ess_cons (es_set false (pasg C (i := 2) (ev_lst ea_nil)))
  (ess_cons (es_while 1000 po (Ew.et (ew_and (et_ne (ev_var 1) ev_str C) (ew_and1 (et_notIn (ev_var 1) (ev_var 2) C)))) (ess_cons (es_append (p_var 2) (ev_var 1))
  (ess_one (es_set false (pasg C (i := 1) (ev_subs C (ev_var 0) (ev_var 1)))))))
  (ess_one (es_ret (ev_if (et_ne (ev_var 1) ev_str C) (ev_sl (ev_var 2) (eo_some (ev_lidx (ev_var 2) (ev_var 1))) eo_none) (ev_lst ea_nil))))))) g b
abbrev s_parents_of : Stmt := top 29
theorem sc_parents_of : FnScope ["letters", "found", "name", "ring"] ["letters"] (defScope s_parents_of) := ⟨rfl, rfl, rfl, by decide +kernel, rfl, by decide +kernel, by decide +kernel⟩
theorem ok_parents_of (T : Txt K mg) (D_wanted_of : DefP P w K mg base 2 "wanted_of" 1 c_wanted_of) (D_names_of : DefP P w K mg base 1 "names_of" 1 c_names_of) (D_ring_of : DefP P w K mg base 1 "ring_of" 2 c_ring_of) (F : Fun K "parents_of" "parents_of" s_parents_of f fd) (g : mg "parents_of" = some (.ref f)) (b : Binds K fd ["letters"] []) : DefP P w K mg base 3 "parents_of" 1 c_parents_of :=
  DefP.mk F (fn_pv (k := 2) F sc_parents_of rfl (fun cdv A outer s H E C tk po =>
  ess_cons (es_set false (pasg C (i := 1) (ev_call C tk (DefP.at D_wanted_of) (ea_cons (ev_var 0) ea_nil))))
  (ess_cons (es_for po C (T := (.one 2)) (ei_of (ev_call C tk (DefP.at D_names_of) (ea_cons (ev_var 0) ea_nil))) (tg_one C (i := 2)) (ess_cons (es_set false (pasg C (i := 3) (ev_call C tk (DefP.at D_ring_of) (ea_cons (ev_var 1) (ea_cons (ev_var 2) ea_nil)))))
  (ess_one (es_if (et_ne (ev_var 3) (ev_lst ea_nil) C) (ess_one (es_put C (p_var 1) (ev_min C T.n_min (ev_var 3)) (ev_str))) ess_nil))))
  (ess_one (es_ret (ev_var 1)))))) g b
abbrev s_parents : Stmt := top 30
theorem sc_parents : FnScope ["letters", "found", "name"] ["letters"] (defScope s_parents) := ⟨rfl, rfl, rfl, by decide +kernel, rfl, by decide +kernel, by decide +kernel⟩
theorem ok_parents (T : Txt K mg) (D_check_letters : DefP P w K mg base 3 "check_letters" 1 c_check_letters) (D_parents_of : DefP P w K mg base 3 "parents_of" 1 c_parents_of) (F : Fun K "parents" "parents" s_parents f fd) (g : mg "parents" = some (.ref f)) (b : Binds K fd ["letters"] []) : DefP P w K mg base 4 "parents" 1 c_parents :=
  DefP.mk F (fn_pv (k := 3) F sc_parents rfl (fun cdv A outer s H E C tk po =>
  ess_cons (es_drop (ev_call C tk (DefP.at D_check_letters) (ea_cons (ev_var 0) ea_nil)))
  (ess_cons (es_set false (pasg C (i := 1) (ev_call C tk (DefP.at D_parents_of) (ea_cons (ev_var 0) ea_nil))))
  (ess_one (es_ret (ev_comp C (own := [("name", 2)]) (T := (.one 2)) (ft := tTrue) (fe := y_parents_1) ⟨by decide, (ei_of (ev_sorted C T.n_sorted (ev_list C T.n_list (ev_var 1)))).pi, blkOk_by (by rfl), fun s H C1 cl fp => tg_one (XOk.blk C) (i := 2), fun s H C1 cl fp => pts_true, fun s H C1 cl fp => (ev_tup (ea_cons (ev_var 2) (ea_cons (ev_subs (XOk.blk C) (ev_var 1) (ev_var 2)) ea_nil))).pe⟩)))))) g b
abbrev s_children_of : Stmt := top 31
theorem sc_children_of : FnScope ["found", "name", "one"] ["found", "name"] (defScope s_children_of) := ⟨rfl, rfl, rfl, by decide +kernel, rfl, by decide +kernel, by decide +kernel⟩
theorem ok_children_of (T : Txt K mg) (F : Fun K "children_of" "children_of" s_children_of f fd) (g : mg "children_of" = some (.ref f)) (b : Binds K fd ["found", "name"] []) : DefP P w K mg base 1 "children_of" 2 c_children_of :=
  DefP.mk F (fn_pv (k := 0) F sc_children_of rfl (fun cdv A outer s H E C tk po =>
  ess_one (es_ret (ev_sorted C T.n_sorted (ev_compD C 0 (own := [("one", 2)]) (T := (.one 2)) (ft := q_children_of_1) (fe := y_children_of_1) ⟨by decide, blkOk_by (by rfl), fun s H C1 cl fp => tg_one (XOk.blk C) (i := 2), fun s H C1 cl fp => pts_of (et_eq (ev_subs (XOk.blk C) (ev_var 0) (ev_var 2)) (ev_var 1) ((XOk.blk C))), fun s H C1 cl fp => (ev_var 2).pe⟩))))) g b
abbrev s_line_of : Stmt := top 32
theorem sc_line_of : FnScope ["found", "name", "line"] ["found", "name"] (defScope s_line_of) := ⟨rfl, rfl, rfl, by decide +kernel, rfl, by decide +kernel, by decide +kernel⟩
theorem ok_line_of (T : Txt K mg) (F : Fun K "line_of" "line_of" s_line_of f fd) (g : mg "line_of" = some (.ref f)) (b : Binds K fd ["found", "name"] []) : DefP P w K mg base 1 "line_of" 2 c_line_of :=
  DefP.mk F (fn_pv (k := 0) F sc_line_of rfl (fun cdv A outer s H E C tk po =>
  ess_cons (es_set false (pasg C (i := 2) (ev_lst (ea_cons (ev_var 1) ea_nil))))
  (ess_cons (es_while 1000 po (et_ne (ev_subs C (ev_var 0) (ev_subs C (ev_var 2) (ev_neg ev_int))) ev_str C) (ess_one (es_append (p_var 2) (ev_subs C (ev_var 0) (ev_subs C (ev_var 2) (ev_neg ev_int))))))
  (ess_one (es_ret (ev_rev (ev_var 2))))))) g b
abbrev s_split_of : Stmt := top 35
theorem sc_split_of : FnScope ["letters", "found", "titles", "some", "name", "answers", "title", "above", "one"] ["letters", "found"] (defScope s_split_of) := ⟨rfl, rfl, rfl, by decide +kernel, rfl, by decide +kernel, by decide +kernel⟩
theorem ok_split_of (T : Txt K mg) (D_bare_of : DefP P w K mg base 1 "bare_of" 1 c_bare_of) (D_line_of : DefP P w K mg base 1 "line_of" 2 c_line_of) (F : Fun K "split_of" "split_of" s_split_of f fd) (g : mg "split_of" = some (.ref f)) (b : Binds K fd ["letters", "found"] []) : DefP P w K mg base 2 "split_of" 2 c_split_of :=
  DefP.mk F (fn_pv (k := 1) F sc_split_of rfl (fun cdv A outer s H E C tk po =>
  ess_cons (es_unp C (is := [2, 3]) (ev_tup (ea_cons ev_dic0 (ea_cons (ev_lst ea_nil) ea_nil))) (tg_cons C (i := 2) (is := [3]) (tg_cons C (i := 3) (is := []) tg_nil)))
  (ess_cons (es_for po C (T := (.many [4, 5, 6])) (ei_of (ev_var 0)) (tg_many C (is := [4, 5, 6]) (tg_cons C (i := 4) (is := [5, 6]) (tg_cons C (i := 5) (is := [6]) (tg_cons C (i := 6) (is := []) tg_nil)))) (ess_one (es_put C (p_var 2) (ev_var 4) (ev_call C tk (DefP.at D_bare_of) (ea_cons (ev_var 6) ea_nil)))))
  (ess_cons (es_for po C (T := (.one 4)) (ei_of (ev_sorted C T.n_sorted (ev_list C T.n_list (ev_var 2)))) (tg_one C (i := 4)) (ess_cons (es_set false (pasgC C (i := 7) (own := [("one", 8)]) (T := (.one 8)) (ft := q_split_of_1) (fe := y_split_of_1) ⟨by decide, (ei_of (ev_sl (ev_call C tk (DefP.at D_line_of) (ea_cons (ev_var 1) (ea_cons (ev_var 4) ea_nil))) eo_none (eo_some (ev_neg ev_int)))).pi, blkOk_by (by rfl), fun s H C1 cl fp => tg_one (XOk.blk C) (i := 8), fun s H C1 cl fp => pts_of (et_in (ev_var 8) (ev_var 2) ((XOk.blk C))), fun s H C1 cl fp => (ev_var 8).pe⟩ (by rfl) (by rfl) (by rfl) (by rfl)))
  (ess_one (es_if (Ew.et (ew_and (et_ne (ev_var 7) (ev_lst ea_nil) C) (ew_and1 (et_ne (ev_subs C (ev_var 2) (ev_subs C (ev_var 7) (ev_neg ev_int))) (ev_subs C (ev_var 2) (ev_var 4)) C)))) (ess_one (es_append (p_var 3) (ev_var 4))) ess_nil))))
  (ess_one (es_ret (ev_var 3))))))) g b
abbrev s_tied_of : Stmt := top 36
theorem sc_tied_of : FnScope ["letters", "found", "titles", "split", "near", "name", "answers", "title", "alike", "child", "top"] ["letters"] (defScope s_tied_of) := ⟨rfl, rfl, rfl, by decide +kernel, rfl, by decide +kernel, by decide +kernel⟩
theorem ok_tied_of (T : Txt K mg) (D_parents_of : DefP P w K mg base 3 "parents_of" 1 c_parents_of) (D_split_of : DefP P w K mg base 2 "split_of" 2 c_split_of) (D_bare_of : DefP P w K mg base 1 "bare_of" 1 c_bare_of) (D_children_of : DefP P w K mg base 1 "children_of" 2 c_children_of) (F : Fun K "tied_of" "tied_of" s_tied_of f fd) (g : mg "tied_of" = some (.ref f)) (b : Binds K fd ["letters"] []) : DefP P w K mg base 4 "tied_of" 1 c_tied_of :=
  DefP.mk F (fn_pv (k := 3) F sc_tied_of rfl (fun cdv A outer s H E C tk po =>
  ess_cons (es_unp C (is := [1, 2]) (ev_tup (ea_cons (ev_call C tk (DefP.at D_parents_of) (ea_cons (ev_var 0) ea_nil)) (ea_cons ev_dic0 ea_nil))) (tg_cons C (i := 1) (is := [2]) (tg_cons C (i := 2) (is := []) tg_nil)))
  (ess_cons (es_unp C (is := [3, 4]) (ev_tup (ea_cons (ev_call C tk (DefP.at D_split_of) (ea_cons (ev_var 0) (ea_cons (ev_var 1) ea_nil))) (ea_cons ev_dic0 ea_nil))) (tg_cons C (i := 3) (is := [4]) (tg_cons C (i := 4) (is := []) tg_nil)))
  (ess_cons (es_for po C (T := (.many [5, 6, 7])) (ei_of (ev_var 0)) (tg_many C (is := [5, 6, 7]) (tg_cons C (i := 5) (is := [6, 7]) (tg_cons C (i := 6) (is := [7]) (tg_cons C (i := 7) (is := []) tg_nil)))) (ess_one (es_put C (p_var 2) (ev_var 5) (ev_call C tk (DefP.at D_bare_of) (ea_cons (ev_var 7) ea_nil)))))
  (ess_cons (es_forD po C 1 (T := (.one 5)) (tg_one C (i := 5)) (ess_cons (es_put C (p_var 4) (ev_var 5) (ev_comp C (own := [("child", 9)]) (T := (.one 9)) (ft := q_tied_of_1) (fe := y_tied_of_1) ⟨by decide, (ei_of (ev_call C tk (DefP.at D_children_of) (ea_cons (ev_var 1) (ea_cons (ev_var 5) ea_nil)))).pi, blkOk_by (by rfl), fun s H C1 cl fp => tg_one (XOk.blk C) (i := 9), fun s H C1 cl fp => pts_of (et_notIn (ev_var 9) (ev_var 3) ((XOk.blk C))), fun s H C1 cl fp => (ev_var 9).pe⟩))
  (ess_one (es_if (Ew.et (ew_and (et_ne (ev_subs C (ev_var 1) (ev_var 5)) ev_str C) (ew_and1 (et_notIn (ev_var 5) (ev_var 3) C)))) (ess_one (es_appendIn C (p_var 4) (ev_var 5) (ev_subs C (ev_var 1) (ev_var 5)))) (ess_one (es_if (Ew.et (ew_and (et_eq (ev_subs C (ev_var 1) (ev_var 5)) ev_str C) (ew_and1 (et_ne (ev_get2 C (ev_var 2) (ev_var 5) (ev_str) ⟨rfl, rfl, rfl, rfl⟩) ev_str C)))) (ess_cons (es_set false (pasgC C (i := 8) (own := [("top", 10)]) (T := (.one 10)) (ft := q_tied_of_2) (fe := y_tied_of_2) ⟨by decide, (ei_of (ev_call C tk (DefP.at D_children_of) (ea_cons (ev_var 1) (ea_cons ev_str ea_nil)))).pi, blkOk_by (by rfl), fun s H C1 cl fp => tg_one (XOk.blk C) (i := 10), fun s H C1 cl fp => pts_of (Ew.et (ew_and (et_eq (ev_get2 (XOk.blk C) (ev_var 2) (ev_var 10) (ev_str) ⟨rfl, rfl, rfl, rfl⟩) (ev_subs (XOk.blk C) (ev_var 2) (ev_var 5)) ((XOk.blk C))) (ew_and1 (et_ne (ev_var 10) (ev_var 5) ((XOk.blk C)))))), fun s H C1 cl fp => (ev_var 10).pe⟩ (by rfl) (by rfl) (by rfl) (by rfl)))
  (ess_one (es_extendIn C (p_var 4) (ev_var 5) (ev_var 8)))) ess_nil))))))
  (ess_one (es_ret (ev_var 4)))))))) g b
abbrev s_Together___init__ : Stmt := mth 37 0
theorem sc_Together___init__ : FnScope ["self", "path"] ["self", "path"] (defScope s_Together___init__) := ⟨rfl, rfl, rfl, by decide +kernel, rfl, by decide +kernel, by decide +kernel⟩
theorem ok_Together___init__ (T : Txt K mg) {C0 : Addr} (F : Fun K "__init__" "Together.__init__" s_Together___init__ f fd) (g : mg "Together" = some (.ref C0)) (M : Mk K C0 f) (b : Binds K fd ["self", "path"] []) : MakP P w K mg base 2 [84, 111, 103, 101, 116, 104, 101, 114] 1 i_Together___init__ :=
  ⟨C0, f, fd, _, 1, g, M, fn_init (k := 0) F sc_Together___init__ rfl T.t_path_Together rfl (fun cdv A outer s H E C tk =>
  init_one (p_var 0) (ev_list C T.n_list (ev_var 1))), b, by decide⟩
abbrev s_Together_shows : Stmt := mth 37 1
theorem sc_Together_shows : FnScope ["self", "letters", "one", "other", "near", "ahead", "after", "name"] ["self", "letters", "one", "other"] (defScope s_Together_shows) := ⟨rfl, rfl, rfl, by decide +kernel, rfl, by decide +kernel, by decide +kernel⟩
theorem ok_Together_shows (T : Txt K mg) (D_tied_of : DefP P w K mg base 4 "tied_of" 1 c_tied_of) {C0 : Addr} (F : Fun K "shows" "Together.shows" s_Together_shows f fd) (g : mg "Together" = some (.ref C0)) (c0 : Cls K C0) (M : Meth K C0 "shows" f) (b : Binds K fd ["self", "letters", "one", "other"] []) : MetP P w K mg base 5 [84, 111, 103, 101, 116, 104, 101, 114] "shows" 4 c_Together_shows :=
  ⟨C0, f, fd, _, 5, g, c0, M, fn_pv (k := 4) F sc_Together_shows rfl (fun cdv A outer s H E C tk po =>
  ess_cons (es_set false (pasg C (i := 4) (ev_call C tk (DefP.at D_tied_of) (ea_cons (ev_var 1) ea_nil))))
  (ess_cons (es_if (Ew.et (ew_or (et_eq (ev_attr (att_cons T.t_path_Together (att_nil)) (ev_var 0)) (ev_lst ea_nil) C) (ew_or (et_ne (ev_subs C (ev_attr (att_cons T.t_path_Together (att_nil)) (ev_var 0)) ev_int) (ev_var 2) C) (ew_or1 (et_ne (ev_subs C (ev_attr (att_cons T.t_path_Together (att_nil)) (ev_var 0)) (ev_neg ev_int)) (ev_var 3) C))))) (ess_one (es_ret ev_bl)) ess_nil)
  (ess_cons (es_if (et_not (et_of (ev_all C T.n_all (ev_comp C (own := [("name", 7)]) (T := (.one 7)) (ft := tTrue) (fe := y_Together_shows_1) ⟨by decide, (ei_of (ev_attr (att_cons T.t_path_Together (att_nil)) (ev_var 0))).pi, blkOk_by (by rfl), fun s H C1 cl fp => tg_one (XOk.blk C) (i := 7), fun s H C1 cl fp => pts_true, fun s H C1 cl fp => (ev_in ((XOk.blk C)) (ev_var 7) (ev_var 4)).pe⟩)))) (ess_one (es_ret ev_bl)) ess_nil)
  (ess_one (es_ret (ev_all C T.n_all (ev_comp C (own := [("ahead", 5), ("after", 6)]) (T := (.many [5, 6])) (ft := tTrue) (fe := y_Together_shows_2) ⟨by decide, (ei_zip T.n_zip (ev_attr (att_cons T.t_path_Together (att_nil)) (ev_var 0)) (ev_sl (ev_attr (att_cons T.t_path_Together (att_nil)) (ev_var 0)) (eo_some ev_int) eo_none)).pi, blkOk_by (by rfl), fun s H C1 cl fp => tg_many (XOk.blk C) (is := [5, 6]) (tg_cons (XOk.blk C) (i := 5) (is := [6]) (tg_cons (XOk.blk C) (i := 6) (is := []) tg_nil)), fun s H C1 cl fp => pts_true, fun s H C1 cl fp => (ev_in ((XOk.blk C)) (ev_var 6) (ev_subs (XOk.blk C) (ev_var 4) (ev_var 5))).pe⟩))))))), b, Nat.le_refl _⟩
abbrev s_Apart___init__ : Stmt := mth 38 0
theorem sc_Apart___init__ : FnScope ["self", "names"] ["self", "names"] (defScope s_Apart___init__) := ⟨rfl, rfl, rfl, by decide +kernel, rfl, by decide +kernel, by decide +kernel⟩
theorem ok_Apart___init__ (T : Txt K mg) {C0 : Addr} (F : Fun K "__init__" "Apart.__init__" s_Apart___init__ f fd) (g : mg "Apart" = some (.ref C0)) (M : Mk K C0 f) (b : Binds K fd ["self", "names"] []) : MakP P w K mg base 2 [65, 112, 97, 114, 116] 1 i_Apart___init__ :=
  ⟨C0, f, fd, _, 1, g, M, fn_init (k := 0) F sc_Apart___init__ rfl T.t_names_Apart rfl (fun cdv A outer s H E C tk =>
  init_one (p_var 0) (ev_list C T.n_list (ev_var 1))), b, by decide⟩
abbrev s_Apart_shows : Stmt := mth 38 1
theorem sc_Apart_shows : FnScope ["self", "letters", "one", "other", "near", "name", "more"] ["self", "letters", "one", "other"] (defScope s_Apart_shows) := ⟨rfl, rfl, rfl, by decide +kernel, rfl, by decide +kernel, by decide +kernel⟩
theorem ok_Apart_shows (T : Txt K mg) (D_tied_of : DefP P w K mg base 4 "tied_of" 1 c_tied_of) {C0 : Addr} (F : Fun K "shows" "Apart.shows" s_Apart_shows f fd) (g : mg "Apart" = some (.ref C0)) (c0 : Cls K C0) (M : Meth K C0 "shows" f) (b : Binds K fd ["self", "letters", "one", "other"] []) : MetP P w K mg base 5 [65, 112, 97, 114, 116] "shows" 4 c_Apart_shows :=
  ⟨C0, f, fd, _, 5, g, c0, M, fn_pv (k := 4) F sc_Apart_shows rfl (fun cdv A outer s H E C tk po =>
  ess_cons (es_set false (pasg C (i := 4) (ev_call C tk (DefP.at D_tied_of) (ea_cons (ev_var 1) ea_nil))))
  (ess_cons (es_if (Ew.et (ew_or (et_ne (ev_attr (att_cons T.t_names_Apart (att_nil)) (ev_var 0)) (ev_sortSet C T.n_sorted T.n_set (ev_attr (att_cons T.t_names_Apart (att_nil)) (ev_var 0))) C) (ew_or (et_notIn (ev_var 2) (ev_attr (att_cons T.t_names_Apart (att_nil)) (ev_var 0)) C) (ew_or1 (et_in (ev_var 3) (ev_attr (att_cons T.t_names_Apart (att_nil)) (ev_var 0)) C))))) (ess_one (es_ret ev_bl)) ess_nil)
  (ess_cons (es_if (et_not (et_of (ev_all C T.n_all (ev_comp C (own := [("name", 5)]) (T := (.one 5)) (ft := tTrue) (fe := y_Apart_shows_1) ⟨by decide, (ei_of (ev_attr (att_cons T.t_names_Apart (att_nil)) (ev_var 0))).pi, blkOk_by (by rfl), fun s H C1 cl fp => tg_one (XOk.blk C) (i := 5), fun s H C1 cl fp => pts_true, fun s H C1 cl fp => (ev_in ((XOk.blk C)) (ev_var 5) (ev_var 4)).pe⟩)))) (ess_one (es_ret ev_bl)) ess_nil)
  (ess_cons (es_for po C (T := (.one 5)) (ei_of (ev_attr (att_cons T.t_names_Apart (att_nil)) (ev_var 0))) (tg_one C (i := 5)) (ess_one (es_if (et_not (et_of (ev_all C T.n_all (ev_comp C (own := [("more", 6)]) (T := (.one 6)) (ft := tTrue) (fe := y_Apart_shows_2) ⟨by decide, (ei_of (ev_subs C (ev_var 4) (ev_var 5))).pi, blkOk_by (by rfl), fun s H C1 cl fp => tg_one (XOk.blk C) (i := 6), fun s H C1 cl fp => pts_true, fun s H C1 cl fp => (ev_in ((XOk.blk C)) (ev_var 6) (ev_attr (att_cons T.t_names_Apart (att_nil)) (ev_var 0))).pe⟩)))) (ess_one (es_ret ev_bl)) ess_nil)))
  (ess_one (es_ret ev_bl)))))), b, Nat.le_refl _⟩
abbrev s_row_of : Stmt := top 39
theorem sc_row_of : FnScope ["text", "bare", "many", "gap", "name"] ["text"] (defScope s_row_of) := ⟨rfl, rfl, rfl, by decide +kernel, rfl, by decide +kernel, by decide +kernel⟩
theorem ok_row_of (T : Txt K mg) (D_is_name : DefP P w K mg base 1 "is_name" 1 c_is_name) (F : Fun K "row_of" "row_of" s_row_of f fd) (g : mg "row_of" = some (.ref f)) (b : Binds K fd ["text"] []) : DefP P w K mg base 2 "row_of" 1 c_row_of :=
  DefP.mk F (fn_pv (k := 1) F sc_row_of rfl (fun cdv A outer s H E C tk po =>
  ess_cons (es_set false (pasg C (i := 1) (ev_lstrip (ev_var 0) ev_str)))
  (ess_cons (es_set false (pasg C (i := 2) (ev_subI (ev_len T.n_len (ev_var 0)) (ev_len T.n_len (ev_var 1)))))
  (ess_cons (es_set false (pasg C (i := 3) (ev_and (ev_eq C (ev_sl (ev_var 1) eo_none (eo_some ev_int)) ev_str) (ev_one (ev_eq C (ev_sl (ev_var 1) (eo_some (ev_neg ev_int)) eo_none) ev_str)))))
  (ess_cons (es_set true (pasg C (i := 4) (ev_if (et_of (ev_var 3)) (ev_sl (ev_var 1) (eo_some ev_int) (eo_some (ev_neg ev_int))) (ev_var 1))))
  (ess_one (es_ret (ev_if (Ew.et (ew_and (et_eq (ev_mod (ev_var 2) ev_int) ev_int C) (ew_and1 (et_of (ev_call C tk (DefP.at D_is_name) (ea_cons (ev_var 4) ea_nil)))))) (ev_tup (ea_cons (ev_fdv (ev_var 2) ev_int) (ea_cons (ev_var 4) (ea_cons (ev_var 3) ea_nil)))) ev_non)))))))) g b
abbrev s_read_of : Stmt := top 40
theorem sc_read_of : FnScope ["rows", "found", "line", "at", "text", "row", "one"] ["rows"] (defScope s_read_of) := ⟨rfl, rfl, rfl, by decide +kernel, rfl, by decide +kernel, by decide +kernel⟩
theorem ok_read_of (T : Txt K mg) (D_row_of : DefP P w K mg base 2 "row_of" 1 c_row_of) (F : Fun K "read_of" "read_of" s_read_of f fd) (g : mg "read_of" = some (.ref f)) (b : Binds K fd ["rows"] []) : DefP P w K mg base 3 "read_of" 1 c_read_of :=
  DefP.mk F (fn_pv (k := 2) F sc_read_of rfl (fun cdv A outer s H E C tk po =>
  ess_cons (es_par2 C (i := 1) (j := 2) (ea_cons (ev_lst ea_nil) (ea_cons (ev_lst ea_nil) ea_nil)) (by decide) (by rfl) (by rfl) (by rfl))
  (ess_cons (es_for po C (T := (.many [3, 4])) (ei_enum T.n_enumerate (ev_var 0)) (tg_many C (is := [3, 4]) (tg_cons C (i := 3) (is := [4]) (tg_cons C (i := 4) (is := []) tg_nil))) (ess_cons (es_set false (pasg C (i := 5) (ev_call C tk (DefP.at D_row_of) (ea_cons (ev_var 4) ea_nil))))
  (ess_cons (es_if (Ew.et (ew_or (et_is (ev_var 5) ev_non) (ew_or (et_gt (ev_subs C (ev_var 5) ev_int) (ev_len T.n_len (ev_var 2))) (ew_or1 (et_in (ev_subs C (ev_var 5) ev_int) (ev_comp C (own := [("one", 6)]) (T := (.one 6)) (ft := tTrue) (fe := y_read_of_1) ⟨by decide, (ei_of (ev_var 1)).pi, blkOk_by (by rfl), fun s H C1 cl fp => tg_one (XOk.blk C) (i := 6), fun s H C1 cl fp => pts_true, fun s H C1 cl fp => (ev_subs (XOk.blk C) (ev_var 6) ev_int).pe⟩) C))))) (ess_one (es_ret (ev_tup (ea_cons (ev_var 1) (ea_cons (ev_var 3) ea_nil))))) ess_nil)
  (ess_cons (es_set false (pasg C (i := 2) (ev_add (ev_sl (ev_var 2) eo_none (eo_some (ev_subs C (ev_var 5) ev_int))) (ev_lst (ea_cons (ev_subs C (ev_var 5) ev_int) ea_nil)))))
  (ess_one (es_append (p_var 1) (ev_tup (ea_cons (ev_subs C (ev_var 5) ev_int) (ea_cons (ev_subs C (ev_var 5) ev_int) (ea_cons (ev_if (et_gt (ev_len T.n_len (ev_var 2)) ev_int) (ev_subs C (ev_var 2) (ev_neg ev_int)) ev_str) ea_nil))))))))))
  (ess_one (es_ret (ev_tup (ea_cons (ev_sorted C T.n_sorted (ev_var 1)) (ea_cons (ev_neg ev_int) ea_nil)))))))) g b
abbrev s_Forest___init__ : Stmt := mth 41 0
theorem sc_Forest___init__ : FnScope ["self", "ties"] ["self", "ties"] (defScope s_Forest___init__) := ⟨rfl, rfl, rfl, by decide +kernel, rfl, by decide +kernel, by decide +kernel⟩
theorem ok_Forest___init__ (T : Txt K mg) {C0 : Addr} (F : Fun K "__init__" "Forest.__init__" s_Forest___init__ f fd) (g : mg "Forest" = some (.ref C0)) (M : Mk K C0 f) (b : Binds K fd ["self", "ties"] []) : MakP P w K mg base 2 [70, 111, 114, 101, 115, 116] 1 i_Forest___init__ :=
  ⟨C0, f, fd, _, 1, g, M, fn_init (k := 0) F sc_Forest___init__ rfl T.t_ties_Forest rfl (fun cdv A outer s H E C tk =>
  init_one (p_var 0) (ev_list C T.n_list (ev_var 1))), b, by decide⟩
abbrev s_Forest_shows : Stmt := mth 41 1
theorem sc_Forest_shows : FnScope ["self", "rows"] ["self", "rows"] (defScope s_Forest_shows) := ⟨rfl, rfl, rfl, by decide +kernel, rfl, by decide +kernel, by decide +kernel⟩
theorem ok_Forest_shows (T : Txt K mg) (D_read_of : DefP P w K mg base 3 "read_of" 1 c_read_of) {C0 : Addr} (F : Fun K "shows" "Forest.shows" s_Forest_shows f fd) (g : mg "Forest" = some (.ref C0)) (c0 : Cls K C0) (M : Meth K C0 "shows" f) (b : Binds K fd ["self", "rows"] []) : MetP P w K mg base 4 [70, 111, 114, 101, 115, 116] "shows" 2 c_Forest_shows :=
  ⟨C0, f, fd, _, 4, g, c0, M, fn_pv (k := 3) F sc_Forest_shows rfl (fun cdv A outer s H E C tk po =>
  ess_one (es_ret (ev_eq C (ev_call C tk (DefP.at D_read_of) (ea_cons (ev_var 1) ea_nil)) (ev_tup (ea_cons (ev_attr (att_cons T.t_ties_Forest (att_nil)) (ev_var 0)) (ea_cons (ev_neg ev_int) ea_nil)))))), b, Nat.le_refl _⟩
abbrev s_Wrong___init__ : Stmt := mth 42 0
theorem sc_Wrong___init__ : FnScope ["self", "row"] ["self", "row"] (defScope s_Wrong___init__) := ⟨rfl, rfl, rfl, by decide +kernel, rfl, by decide +kernel, by decide +kernel⟩
theorem ok_Wrong___init__ (T : Txt K mg) {C0 : Addr} (F : Fun K "__init__" "Wrong.__init__" s_Wrong___init__ f fd) (g : mg "Wrong" = some (.ref C0)) (M : Mk K C0 f) (b : Binds K fd ["self", "row"] []) : MakP P w K mg base 2 [87, 114, 111, 110, 103] 1 i_Wrong___init__ :=
  ⟨C0, f, fd, _, 1, g, M, fn_init (k := 0) F sc_Wrong___init__ rfl T.t_row_Wrong rfl (fun cdv A outer s H E C tk =>
  init_one (p_var 0) (ev_var 1)), b, by decide⟩
abbrev s_Wrong_shows : Stmt := mth 42 1
theorem sc_Wrong_shows : FnScope ["self", "rows"] ["self", "rows"] (defScope s_Wrong_shows) := ⟨rfl, rfl, rfl, by decide +kernel, rfl, by decide +kernel, by decide +kernel⟩
theorem ok_Wrong_shows (T : Txt K mg) (D_read_of : DefP P w K mg base 3 "read_of" 1 c_read_of) {C0 : Addr} (F : Fun K "shows" "Wrong.shows" s_Wrong_shows f fd) (g : mg "Wrong" = some (.ref C0)) (c0 : Cls K C0) (M : Meth K C0 "shows" f) (b : Binds K fd ["self", "rows"] []) : MetP P w K mg base 4 [87, 114, 111, 110, 103] "shows" 2 c_Wrong_shows :=
  ⟨C0, f, fd, _, 4, g, c0, M, fn_pv (k := 3) F sc_Wrong_shows rfl (fun cdv A outer s H E C tk po =>
  ess_one (es_ret (ev_and (ev_ge (ev_attr (att_cons T.t_row_Wrong (att_nil)) (ev_var 0)) ev_int) (ev_one (ev_eq C (ev_subs C (ev_call C tk (DefP.at D_read_of) (ea_cons (ev_var 1) ea_nil)) ev_int) (ev_attr (att_cons T.t_row_Wrong (att_nil)) (ev_var 0))))))), b, Nat.le_refl _⟩
abbrev s_has_letter : Stmt := top 46
theorem sc_has_letter : FnScope ["found", "here", "name", "child"] ["found", "here", "name"] (defScope s_has_letter) := ⟨rfl, rfl, rfl, by decide +kernel, rfl, by decide +kernel, by decide +kernel⟩
theorem ok_has_letter (T : Txt K mg) (D_children_of : DefP P w K mg base 1 "children_of" 2 c_children_of) (F : Fun K "has_letter" "has_letter" s_has_letter f fd) (g : mg "has_letter" = some (.ref f)) (b : Binds K fd ["found", "here", "name"] []) : DefP P w K mg base 62 "has_letter" 3 c_has_letter :=
  defp_rec (L := 1) (c := r_has_letter) rfl F sc_has_letter rfl g b (fun m D_rec => DefP.mk F (fn_pv (k := 1 + 1 + m) F sc_has_letter rfl (fun cdv A outer s H E C tk po =>
  ess_cons (es_if (et_in (ev_var 2) (ev_var 1) C) (ess_one (es_ret ev_bl)) ess_nil)
  (ess_one (es_ret (ev_any C T.n_any (ev_comp C (own := [("child", 3)]) (T := (.one 3)) (ft := tTrue) (fe := (y_has_letter_1 (r_has_letter m))) ⟨by decide, (ei_of (ev_call C tk (DefP.at D_children_of (by omega)) (ea_cons (ev_var 0) (ea_cons (ev_var 2) ea_nil)))).pi, blkOk_by (by rfl), fun s H C1 cl fp => tg_one (XOk.blk C) (i := 3), fun s H C1 cl fp => pts_true, fun s H C1 cl fp => (ev_call (XOk.blk C) takes0 (DefP.at D_rec (by omega)) (ea_cons (ev_var 0) (ea_cons (ev_var 1) (ea_cons (ev_var 3) ea_nil)))).pe⟩))))) (fun _ _ => rfl)) g b) 60
abbrev s_kept_children : Stmt := top 47
theorem sc_kept_children : FnScope ["found", "here", "name", "child"] ["found", "here", "name"] (defScope s_kept_children) := ⟨rfl, rfl, rfl, by decide +kernel, rfl, by decide +kernel, by decide +kernel⟩
theorem ok_kept_children (T : Txt K mg) (D_children_of : DefP P w K mg base 1 "children_of" 2 c_children_of) (D_has_letter : DefP P w K mg base 62 "has_letter" 3 c_has_letter) (F : Fun K "kept_children" "kept_children" s_kept_children f fd) (g : mg "kept_children" = some (.ref f)) (b : Binds K fd ["found", "here", "name"] []) : DefP P w K mg base 63 "kept_children" 3 c_kept_children :=
  DefP.mk F (fn_pv (k := 62) F sc_kept_children rfl (fun cdv A outer s H E C tk po =>
  ess_one (es_ret (ev_comp C (own := [("child", 3)]) (T := (.one 3)) (ft := q_kept_children_1) (fe := y_kept_children_1) ⟨by decide, (ei_of (ev_call C tk (DefP.at D_children_of) (ea_cons (ev_var 0) (ea_cons (ev_var 2) ea_nil)))).pi, blkOk_by (by rfl), fun s H C1 cl fp => tg_one (XOk.blk C) (i := 3), fun s H C1 cl fp => pts_of (et_of (ev_call (XOk.blk C) takes0 (DefP.at D_has_letter) (ea_cons (ev_var 0) (ea_cons (ev_var 1) (ea_cons (ev_var 3) ea_nil))))), fun s H C1 cl fp => (ev_var 3).pe⟩)))) g b
abbrev s_rows_below : Stmt := top 48
theorem sc_rows_below : FnScope ["found", "here", "name", "deep", "rows", "child"] ["found", "here", "name", "deep"] (defScope s_rows_below) := ⟨rfl, rfl, rfl, by decide +kernel, rfl, by decide +kernel, by decide +kernel⟩
theorem ok_rows_below (T : Txt K mg) (D_kept_children : DefP P w K mg base 63 "kept_children" 3 c_kept_children) (F : Fun K "rows_below" "rows_below" s_rows_below f fd) (g : mg "rows_below" = some (.ref f)) (b : Binds K fd ["found", "here", "name", "deep"] []) : DefP P w K mg base 124 "rows_below" 4 c_rows_below :=
  defp_rec (L := 63) (c := r_rows_below) rfl F sc_rows_below rfl g b (fun m D_rec => DefP.mk F (fn_pv (k := 63 + 1 + m) F sc_rows_below rfl (fun cdv A outer s H E C tk po =>
  ess_cons (es_set false (pasg C (i := 4) (ev_lst (ea_cons (ev_add (ev_mul ev_str (ev_var 3)) (ev_if (et_in (ev_var 2) (ev_var 1) C) (ev_var 2) (ev_add (ev_add ev_str (ev_var 2)) ev_str))) ea_nil))))
  (ess_cons (es_for po C (T := (.one 5)) (ei_of (ev_call C tk (DefP.at D_kept_children (by omega)) (ea_cons (ev_var 0) (ea_cons (ev_var 1) (ea_cons (ev_var 2) ea_nil))))) (tg_one C (i := 5)) (ess_one (es_set false (pasg C (i := 4) (ev_add (ev_var 4) (ev_call C tk (DefP.at D_rec (by omega)) (ea_cons (ev_var 0) (ea_cons (ev_var 1) (ea_cons (ev_var 5) (ea_cons (ev_add (ev_var 3) ev_int) ea_nil))))))))))
  (ess_one (es_ret (ev_var 4))))) (fun _ _ => rfl)) g b) 60
abbrev s_first_rows : Stmt := top 49
theorem sc_first_rows : FnScope ["found", "here", "tops", "name"] ["found", "here"] (defScope s_first_rows) := ⟨rfl, rfl, rfl, by decide +kernel, rfl, by decide +kernel, by decide +kernel⟩
theorem ok_first_rows (T : Txt K mg) (D_kept_children : DefP P w K mg base 63 "kept_children" 3 c_kept_children) (F : Fun K "first_rows" "first_rows" s_first_rows f fd) (g : mg "first_rows" = some (.ref f)) (b : Binds K fd ["found", "here"] []) : DefP P w K mg base 64 "first_rows" 2 c_first_rows :=
  DefP.mk F (fn_pv (k := 63) F sc_first_rows rfl (fun cdv A outer s H E C tk po =>
  ess_cons (es_set false (pasg C (i := 2) (ev_lst ea_nil)))
  (ess_cons (es_for po C (T := (.one 3)) (ei_of (ev_call C tk (DefP.at D_kept_children) (ea_cons (ev_var 0) (ea_cons (ev_var 1) (ea_cons ev_str ea_nil))))) (tg_one C (i := 3)) (ess_cons (es_while 1000 po (Ew.et (ew_and (et_notIn (ev_var 3) (ev_var 1) C) (ew_and1 (et_eq (ev_len T.n_len (ev_call C tk (DefP.at D_kept_children) (ea_cons (ev_var 0) (ea_cons (ev_var 1) (ea_cons (ev_var 3) ea_nil))))) ev_int C)))) (ess_one (es_set false (pasg C (i := 3) (ev_subs C (ev_call C tk (DefP.at D_kept_children) (ea_cons (ev_var 0) (ea_cons (ev_var 1) (ea_cons (ev_var 3) ea_nil)))) ev_int)))))
  (ess_one (es_append (p_var 2) (ev_var 3)))))
  (ess_one (es_ret (ev_sorted C T.n_sorted (ev_var 2))))))) g b
abbrev s_drawn : Stmt := top 50
theorem sc_drawn : FnScope ["letters", "found", "here", "rows", "name", "answers", "title"] ["letters"] (defScope s_drawn) := ⟨rfl, rfl, rfl, by decide +kernel, rfl, by decide +kernel, by decide +kernel⟩
theorem ok_drawn (T : Txt K mg) (D_check_letters : DefP P w K mg base 3 "check_letters" 1 c_check_letters) (D_parents_of : DefP P w K mg base 3 "parents_of" 1 c_parents_of) (D_first_rows : DefP P w K mg base 64 "first_rows" 2 c_first_rows) (D_rows_below : DefP P w K mg base 124 "rows_below" 4 c_rows_below) (F : Fun K "drawn" "drawn" s_drawn f fd) (g : mg "drawn" = some (.ref f)) (b : Binds K fd ["letters"] []) : DefP P w K mg base 125 "drawn" 1 c_drawn :=
  DefP.mk F (fn_pv (k := 124) F sc_drawn rfl (fun cdv A outer s H E C tk po =>
  ess_cons (es_drop (ev_call C tk (DefP.at D_check_letters) (ea_cons (ev_var 0) ea_nil)))
  (ess_cons (es_par3 C (i := 1) (j := 2) (l := 3) (ea_cons (ev_call C tk (DefP.at D_parents_of) (ea_cons (ev_var 0) ea_nil)) (ea_cons ev_dic0 (ea_cons (ev_lst ea_nil) ea_nil))) (by decide) (by decide) (by decide) (by rfl) (by rfl) (by rfl) (by rfl))
  (ess_cons (es_for po C (T := (.many [4, 5, 6])) (ei_of (ev_var 0)) (tg_many C (is := [4, 5, 6]) (tg_cons C (i := 4) (is := [5, 6]) (tg_cons C (i := 5) (is := [6]) (tg_cons C (i := 6) (is := []) tg_nil)))) (ess_one (es_put C (p_var 2) (ev_var 4) (ev_bl))))
  (ess_cons (es_for po C (T := (.one 4)) (ei_of (ev_call C tk (DefP.at D_first_rows) (ea_cons (ev_var 1) (ea_cons (ev_var 2) ea_nil)))) (tg_one C (i := 4)) (ess_one (es_set false (pasg C (i := 3) (ev_add (ev_var 3) (ev_call C tk (DefP.at D_rows_below) (ea_cons (ev_var 1) (ea_cons (ev_var 2) (ea_cons (ev_var 4) (ea_cons ev_int ea_nil))))))))))
  (ess_one (es_ret (ev_var 3)))))))) g b
abbrev s_read : Stmt := top 52
theorem sc_read : FnScope ["rows", "ties", "wrong", "row"] ["rows"] (defScope s_read) := ⟨rfl, rfl, rfl, by decide +kernel, rfl, by decide +kernel, by decide +kernel⟩
theorem ok_read (T : Txt K mg) (D_read_of : DefP P w K mg base 3 "read_of" 1 c_read_of) (D_Forest___init__ : MakP P w K mg base 2 [70, 111, 114, 101, 115, 116] 1 i_Forest___init__) (D_Wrong___init__ : MakP P w K mg base 2 [87, 114, 111, 110, 103] 1 i_Wrong___init__) (F : Fun K "read" "read" s_read f fd) (g : mg "read" = some (.ref f)) (b : Binds K fd ["rows"] []) : DefP P w K mg base 4 "read" 1 c_read :=
  DefP.mk F (fn_pv (k := 3) F sc_read rfl (fun cdv A outer s H E C tk po =>
  ess_cons (es_if (Ew.et (ew_or (et_not (et_of (ev_isiB T.n_isinstance (ev_var 0) T.n_list boot_list ty_list))) (ew_or1 (et_gt (ev_len T.n_len (ev_var 0)) (ev_kInt T.g_MOST_ROWS))))) (ess_one (es_raiseK C tk T.e_BadRows)) ess_nil)
  (ess_cons (es_if (et_not (et_of (ev_all C T.n_all (ev_comp C (own := [("row", 3)]) (T := (.one 3)) (ft := tTrue) (fe := y_read_1) ⟨by decide, (ei_of (ev_var 0)).pi, blkOk_by (by rfl), fun s H C1 cl fp => tg_one (XOk.blk C) (i := 3), fun s H C1 cl fp => pts_true, fun s H C1 cl fp => (ev_and (ev_isiB T.n_isinstance (ev_var 3) T.n_str boot_str ty_str) (ev_one (ev_le (ev_len T.n_len (ev_var 3)) (ev_kInt T.g_LONGEST_ROW)))).pe⟩)))) (ess_one (es_raiseK C tk T.e_BadRows)) ess_nil)
  (ess_cons (es_unp C (is := [1, 2]) (ev_call C tk (DefP.at D_read_of) (ea_cons (ev_var 0) ea_nil)) (tg_cons C (i := 1) (is := [2]) (tg_cons C (i := 2) (is := []) tg_nil)))
  (ess_one (es_ret (ev_if (et_lt (ev_var 2) ev_int) (ev_make C tk (MakP.at D_Forest___init__) (ea_cons (ev_var 1) ea_nil)) (ev_make C tk (MakP.at D_Wrong___init__) (ea_cons (ev_var 2) ea_nil))))))))) g b
abbrev s_changes_of : Stmt := top 54
theorem sc_changes_of : FnScope ["before", "after", "found", "name"] ["before", "after"] (defScope s_changes_of) := ⟨rfl, rfl, rfl, by decide +kernel, rfl, by decide +kernel, by decide +kernel⟩
theorem ok_changes_of (T : Txt K mg) (F : Fun K "changes_of" "changes_of" s_changes_of f fd) (g : mg "changes_of" = some (.ref f)) (b : Binds K fd ["before", "after"] []) : DefP P w K mg base 1 "changes_of" 2 c_changes_of :=
  DefP.mk F (fn_pv (k := 0) F sc_changes_of rfl (fun cdv A outer s H E C tk po =>
  ess_cons (es_set false (pasg C (i := 2) (ev_lst ea_nil)))
  (ess_cons (es_for po C (T := (.one 3)) (ei_of (ev_sortSet C T.n_sorted T.n_set (ev_add (ev_list C T.n_list (ev_var 0)) (ev_list C T.n_list (ev_var 1))))) (tg_one C (i := 3)) (ess_one (es_if (et_ne (ev_get1 C (ev_var 0) (ev_var 3) ⟨rfl, rfl, rfl, rfl⟩) (ev_get1 C (ev_var 1) (ev_var 3) ⟨rfl, rfl, rfl, rfl⟩) C) (ess_one (es_append (p_var 2) (ev_tup (ea_cons (ev_var 3) (ea_cons (ev_get1 C (ev_var 0) (ev_var 3) ⟨rfl, rfl, rfl, rfl⟩) (ea_cons (ev_get1 C (ev_var 1) (ev_var 3) ⟨rfl, rfl, rfl, rfl⟩) ea_nil)))))) ess_nil)))
  (ess_one (es_ret (ev_var 2)))))) g b
abbrev s_Desk___init__ : Stmt := mth 55 0
theorem sc_Desk___init__ : FnScope ["self"] ["self"] (defScope s_Desk___init__) := ⟨rfl, rfl, rfl, by decide +kernel, rfl, by decide +kernel, by decide +kernel⟩
theorem ok_Desk___init__ (T : Txt K mg) {C0 : Addr} (F : Fun K "__init__" "Desk.__init__" s_Desk___init__ f fd) (g : mg "Desk" = some (.ref C0)) (M : Mk K C0 f) (b : Binds K fd ["self"] []) : MakP P w K mg base 2 [68, 101, 115, 107] 0 i_Desk___init__ :=
  ⟨C0, f, fd, _, 1, g, M, fn_init (k := 0) F sc_Desk___init__ rfl T.t_lying_Desk rfl (fun cdv A outer s H E C tk =>
  init_one (p_var 0) (ev_lst ea_nil)), b, by decide⟩
abbrev s_Desk_come : Stmt := mth 55 1
theorem sc_Desk_come : FnScope ["self", "letter", "before", "one"] ["self", "letter"] (defScope s_Desk_come) := ⟨rfl, rfl, rfl, by decide +kernel, rfl, by decide +kernel, by decide +kernel⟩
theorem ok_Desk_come (T : Txt K mg) (D_copied : DefP P w K mg base 1 "copied" 1 c_copied) (D_parents_of : DefP P w K mg base 3 "parents_of" 1 c_parents_of) (D_changes_of : DefP P w K mg base 1 "changes_of" 2 c_changes_of) (D_check_letter : DefP P w K mg base 3 "check_letter" 1 c_check_letter) {C0 : Addr} (F : Fun K "come" "Desk.come" s_Desk_come f fd) (g : mg "Desk" = some (.ref C0)) (c0 : Cls K C0) (M : Meth K C0 "come" f) (b : Binds K fd ["self", "letter"] []) : MetM P w K mg base 4 [68, 101, 115, 107] [108, 121, 105, 110, 103] "come" 2 c_Desk_come :=
  ⟨C0, f, fd, _, 4, g, c0, M, fn_pm (k := 3) F sc_Desk_come rfl (fun cdv A outer s H E C tk po =>
  em_drop (ev_call C tk (DefP.at D_check_letter) (ea_cons (ev_var 1) ea_nil)) (em_if (et_in (ev_subs C (ev_var 1) ev_int) (ev_comp C (own := [("one", 3)]) (T := (.one 3)) (ft := tTrue) (fe := y_Desk_come_1) ⟨by decide, (ei_of (ev_attr (att_cons T.t_lying_Desk (att_nil)) (ev_var 0))).pi, blkOk_by (by rfl), fun s H C1 cl fp => tg_one (XOk.blk C) (i := 3), fun s H C1 cl fp => pts_true, fun s H C1 cl fp => (ev_subs (XOk.blk C) (ev_var 3) ev_int).pe⟩) C) (ess_one (es_raiseK C tk T.e_Known)) (em_if (et_eq (ev_len T.n_len (ev_attr (att_cons T.t_lying_Desk (att_nil)) (ev_var 0))) (ev_kInt T.g_MOST) C) (ess_one (es_raiseK C tk T.e_TooMany)) (em_set (pasg C (i := 2) (ev_call C tk (DefP.at D_parents_of) (ea_cons (ev_attr (att_cons T.t_lying_Desk (att_nil)) (ev_var 0)) ea_nil))) (em_tail T.t_lying_Desk (p_var 0) (ev_sorted C T.n_sorted (ev_add (ev_attr (att_cons T.t_lying_Desk (att_nil)) (ev_var 0)) (ev_call C tk (DefP.at D_copied) (ea_cons (ev_lst (ea_cons (ev_var 1) ea_nil)) ea_nil)))) (ev_call C tk (DefP.at D_changes_of) (ea_cons (ev_var 2) (ea_cons (ev_call C tk (DefP.at D_parents_of) (ea_cons (ev_attr (att_cons T.t_lying_Desk (att_nil)) (ev_var 0)) ea_nil)) ea_nil)))))))), b, Nat.le_refl _⟩
abbrev s_Desk_go : Stmt := mth 55 2
theorem sc_Desk_go : FnScope ["self", "name", "before", "one"] ["self", "name"] (defScope s_Desk_go) := ⟨rfl, rfl, rfl, by decide +kernel, rfl, by decide +kernel, by decide +kernel⟩
theorem ok_Desk_go (T : Txt K mg) (D_parents_of : DefP P w K mg base 3 "parents_of" 1 c_parents_of) (D_changes_of : DefP P w K mg base 1 "changes_of" 2 c_changes_of) {C0 : Addr} (F : Fun K "go" "Desk.go" s_Desk_go f fd) (g : mg "Desk" = some (.ref C0)) (c0 : Cls K C0) (M : Meth K C0 "go" f) (b : Binds K fd ["self", "name"] []) : MetM P w K mg base 4 [68, 101, 115, 107] [108, 121, 105, 110, 103] "go" 2 c_Desk_go :=
  ⟨C0, f, fd, _, 4, g, c0, M, fn_pm (k := 3) F sc_Desk_go rfl (fun cdv A outer s H E C tk po =>
  em_if (Ew.et (ew_or (et_not (et_of (ev_isiB T.n_isinstance (ev_var 1) T.n_str boot_str ty_str))) (ew_or1 (et_notIn (ev_var 1) (ev_comp C (own := [("one", 3)]) (T := (.one 3)) (ft := tTrue) (fe := y_Desk_go_2) ⟨by decide, (ei_of (ev_attr (att_cons T.t_lying_Desk (att_nil)) (ev_var 0))).pi, blkOk_by (by rfl), fun s H C1 cl fp => tg_one (XOk.blk C) (i := 3), fun s H C1 cl fp => pts_true, fun s H C1 cl fp => (ev_subs (XOk.blk C) (ev_var 3) ev_int).pe⟩) C)))) (ess_one (es_raiseK C tk T.e_BadName)) (em_set (pasg C (i := 2) (ev_call C tk (DefP.at D_parents_of) (ea_cons (ev_attr (att_cons T.t_lying_Desk (att_nil)) (ev_var 0)) ea_nil))) (em_tail T.t_lying_Desk (p_var 0) (ev_comp C (own := [("one", 3)]) (T := (.one 3)) (ft := q_Desk_go_1) (fe := y_Desk_go_1) ⟨by decide, (ei_of (ev_attr (att_cons T.t_lying_Desk (att_nil)) (ev_var 0))).pi, blkOk_by (by rfl), fun s H C1 cl fp => tg_one (XOk.blk C) (i := 3), fun s H C1 cl fp => pts_of (et_ne (ev_subs (XOk.blk C) (ev_var 3) ev_int) (ev_var 1) ((XOk.blk C))), fun s H C1 cl fp => (ev_var 3).pe⟩) (ev_call C tk (DefP.at D_changes_of) (ea_cons (ev_var 2) (ea_cons (ev_call C tk (DefP.at D_parents_of) (ea_cons (ev_attr (att_cons T.t_lying_Desk (att_nil)) (ev_var 0)) ea_nil)) ea_nil)))))), b, Nat.le_refl _⟩
abbrev s_Desk_letters : Stmt := mth 55 3
theorem sc_Desk_letters : FnScope ["self"] ["self"] (defScope s_Desk_letters) := ⟨rfl, rfl, rfl, by decide +kernel, rfl, by decide +kernel, by decide +kernel⟩
theorem ok_Desk_letters (T : Txt K mg) (D_copied : DefP P w K mg base 1 "copied" 1 c_copied) {C0 : Addr} (F : Fun K "letters" "Desk.letters" s_Desk_letters f fd) (g : mg "Desk" = some (.ref C0)) (c0 : Cls K C0) (M : Meth K C0 "letters" f) (b : Binds K fd ["self"] []) : MetP P w K mg base 2 [68, 101, 115, 107] "letters" 1 c_Desk_letters :=
  ⟨C0, f, fd, _, 2, g, c0, M, fn_pv (k := 1) F sc_Desk_letters rfl (fun cdv A outer s H E C tk po =>
  ess_one (es_ret (ev_call C tk (DefP.at D_copied) (ea_cons (ev_attr (att_cons T.t_lying_Desk (att_nil)) (ev_var 0)) ea_nil)))), b, Nat.le_refl _⟩
abbrev s_Desk_parents_v3 : Stmt := mth 55 4
theorem sc_Desk_parents_v3 : FnScope ["self"] ["self"] (defScope s_Desk_parents_v3) := ⟨rfl, rfl, rfl, by decide +kernel, rfl, by decide +kernel, by decide +kernel⟩
theorem ok_Desk_parents_v3 (T : Txt K mg) (D__wall : DefP P w K mg base 1 "_wall" 1 c__wall) {C0 : Addr} (F : Fun K "parents" "Desk.parents" s_Desk_parents_v3 f fd) (g : mg "Desk" = some (.ref C0)) (c0 : Cls K C0) (M : Meth K C0 "parents" f) (b : Binds K fd ["self"] []) : MetP P w K mg base 2 [68, 101, 115, 107] "parents" 1 c_Desk_parents_v3 :=
  ⟨C0, f, fd, _, 2, g, c0, M, fn_pv (k := 1) F sc_Desk_parents_v3 rfl (fun cdv A outer s H E C tk po =>
  ess_one (es_drop (ev_call C tk (DefP.at D__wall) (ea_cons ev_int ea_nil)))), b, Nat.le_refl _⟩
abbrev s_Desk_drawn : Stmt := mth 55 5
theorem sc_Desk_drawn : FnScope ["self"] ["self"] (defScope s_Desk_drawn) := ⟨rfl, rfl, rfl, by decide +kernel, rfl, by decide +kernel, by decide +kernel⟩
theorem ok_Desk_drawn (T : Txt K mg) (D_drawn_drawn : DefP P w K mg base 125 "drawn_drawn" 1 c_drawn) {C0 : Addr} (F : Fun K "drawn" "Desk.drawn" s_Desk_drawn f fd) (g : mg "Desk" = some (.ref C0)) (c0 : Cls K C0) (M : Meth K C0 "drawn" f) (b : Binds K fd ["self"] []) : MetP P w K mg base 126 [68, 101, 115, 107] "drawn" 1 c_Desk_drawn :=
  ⟨C0, f, fd, _, 126, g, c0, M, fn_pv (k := 125) F sc_Desk_drawn rfl (fun cdv A outer s H E C tk po =>
  ess_one (es_ret (ev_call C tk (DefP.at D_drawn_drawn) (ea_cons (ev_attr (att_cons T.t_lying_Desk (att_nil)) (ev_var 0)) ea_nil)))), b, Nat.le_refl _⟩
abbrev s_split : Stmt := top 57
theorem sc_split : FnScope ["letters"] ["letters"] (defScope s_split) := ⟨rfl, rfl, rfl, by decide +kernel, rfl, by decide +kernel, by decide +kernel⟩
theorem ok_split (T : Txt K mg) (D_check_letters : DefP P w K mg base 3 "check_letters" 1 c_check_letters) (D_parents_of : DefP P w K mg base 3 "parents_of" 1 c_parents_of) (D_split_of : DefP P w K mg base 2 "split_of" 2 c_split_of) (F : Fun K "split" "split" s_split f fd) (g : mg "split" = some (.ref f)) (b : Binds K fd ["letters"] []) : DefP P w K mg base 4 "split" 1 c_split :=
  DefP.mk F (fn_pv (k := 3) F sc_split rfl (fun cdv A outer s H E C tk po =>
  ess_cons (es_drop (ev_call C tk (DefP.at D_check_letters) (ea_cons (ev_var 0) ea_nil)))
  (ess_one (es_ret (ev_call C tk (DefP.at D_split_of) (ea_cons (ev_var 0) (ea_cons (ev_call C tk (DefP.at D_parents_of) (ea_cons (ev_var 0) ea_nil)) ea_nil))))))) g b
abbrev s_ways_from : Stmt := top 58
theorem sc_ways_from : FnScope ["near", "first", "ways", "line", "more", "name", "other"] ["near", "first"] (defScope s_ways_from) := ⟨rfl, rfl, rfl, by decide +kernel, rfl, by decide +kernel, by decide +kernel⟩
theorem ok_ways_from (T : Txt K mg) (F : Fun K "ways_from" "ways_from" s_ways_from f fd) (g : mg "ways_from" = some (.ref f)) (b : Binds K fd ["near", "first"] []) : DefP P w K mg base 1 "ways_from" 2 c_ways_from :=
  DefP.mk F (fn_pv (k := 0) F sc_ways_from rfl (fun cdv A outer s H E C tk po =>
  ess_cons (es_par2 C (i := 2) (j := 3) (ea_cons (ev_dic1 (ev_var 1) (ev_lst (ea_cons (ev_var 1) ea_nil))) (ea_cons (ev_lst (ea_cons (ev_var 1) ea_nil)) ea_nil)) (by decide) (by rfl) (by rfl) (by rfl))
  (ess_cons (es_while 1000 po (et_ne (ev_var 3) (ev_lst ea_nil) C) (ess_cons (es_set false (pasg C (i := 4) (ev_lst ea_nil)))
  (ess_cons (es_for po C (T := (.one 5)) (ei_of (ev_var 3)) (tg_one C (i := 5)) (ess_one (es_for po C (T := (.one 6)) (ei_of (ev_sorted C T.n_sorted (ev_subs C (ev_var 0) (ev_var 5)))) (tg_one C (i := 6)) (ess_one (es_if (et_notIn (ev_var 6) (ev_var 2) C) (ess_cons (es_put C (p_var 2) (ev_var 6) (ev_add (ev_subs C (ev_var 2) (ev_var 5)) (ev_lst (ea_cons (ev_var 6) ea_nil))))
  (ess_one (es_append (p_var 4) (ev_var 6)))) ess_nil)))))
  (ess_one (es_set true (pasg C (i := 3) (ev_var 4)))))))
  (ess_one (es_ret (ev_var 2)))))) g b
abbrev s_talks : Stmt := top 59
theorem sc_talks : FnScope ["letters", "near", "found", "seen", "here", "name", "other", "lot", "letter"] ["letters"] (defScope s_talks) := ⟨rfl, rfl, rfl, by decide +kernel, rfl, by decide +kernel, by decide +kernel⟩
theorem ok_talks (T : Txt K mg) (D_check_letters : DefP P w K mg base 3 "check_letters" 1 c_check_letters) (D_tied_of : DefP P w K mg base 4 "tied_of" 1 c_tied_of) (D_ways_from : DefP P w K mg base 1 "ways_from" 2 c_ways_from) (F : Fun K "talks" "talks" s_talks f fd) (g : mg "talks" = some (.ref f)) (b : Binds K fd ["letters"] []) : DefP P w K mg base 5 "talks" 1 c_talks :=
  DefP.mk F (fn_pv (k := 4) F sc_talks rfl (fun cdv A outer s H E C tk po =>
  ess_cons (es_drop (ev_call C tk (DefP.at D_check_letters) (ea_cons (ev_var 0) ea_nil)))
  (ess_cons (es_unp C (is := [1, 2, 3]) (ev_tup (ea_cons (ev_call C tk (DefP.at D_tied_of) (ea_cons (ev_var 0) ea_nil)) (ea_cons (ev_lst ea_nil) (ea_cons ev_dic0 ea_nil)))) (tg_cons C (i := 1) (is := [2, 3]) (tg_cons C (i := 2) (is := [3]) (tg_cons C (i := 3) (is := []) tg_nil))))
  (ess_cons (es_set false (pasg C (i := 4) (ev_sorted C T.n_sorted (ev_comp C (own := [("letter", 8)]) (T := (.one 8)) (ft := tTrue) (fe := y_talks_1) ⟨by decide, (ei_of (ev_var 0)).pi, blkOk_by (by rfl), fun s H C1 cl fp => tg_one (XOk.blk C) (i := 8), fun s H C1 cl fp => pts_true, fun s H C1 cl fp => (ev_subs (XOk.blk C) (ev_var 8) ev_int).pe⟩))))
  (ess_cons (es_for po C (T := (.one 5)) (ei_of (ev_var 4)) (tg_one C (i := 5)) (ess_one (es_if (et_notIn (ev_var 5) (ev_var 3) C) (ess_cons (es_set false (pasgC C (i := 7) (own := [("other", 6)]) (T := (.one 6)) (ft := q_talks_1) (fe := y_talks_2) ⟨by decide, (ei_of (ev_var 4)).pi, blkOk_by (by rfl), fun s H C1 cl fp => tg_one (XOk.blk C) (i := 6), fun s H C1 cl fp => pts_of (et_in (ev_var 6) (ev_call (XOk.blk C) takes0 (DefP.at D_ways_from) (ea_cons (ev_var 1) (ea_cons (ev_var 5) ea_nil))) ((XOk.blk C))), fun s H C1 cl fp => (ev_var 6).pe⟩ (by rfl) (by rfl) (by rfl) (by rfl)))
  (ess_cons (es_putEach po C (i := 7) (j := 3) (t := 6) (tg_one C (i := 6)) (p_var 7) (p_var 3) (ev_var 6) (ev_bl))
  (ess_one (es_append (p_var 2) (ev_var 7))))) ess_nil)))
  (ess_one (es_ret (ev_var 2)))))))) g b
abbrev s_judged : Stmt := top 60
theorem sc_judged : FnScope ["letters", "one", "other", "here", "name", "ways", "letter"] ["letters", "one", "other"] (defScope s_judged) := ⟨rfl, rfl, rfl, by decide +kernel, rfl, by decide +kernel, by decide +kernel⟩
theorem ok_judged (T : Txt K mg) (D_check_letters : DefP P w K mg base 3 "check_letters" 1 c_check_letters) (D_tied_of : DefP P w K mg base 4 "tied_of" 1 c_tied_of) (D_ways_from : DefP P w K mg base 1 "ways_from" 2 c_ways_from) (D_Together___init__ : MakP P w K mg base 2 [84, 111, 103, 101, 116, 104, 101, 114] 1 i_Together___init__) (D_Apart___init__ : MakP P w K mg base 2 [65, 112, 97, 114, 116] 1 i_Apart___init__) (F : Fun K "judged" "judged" s_judged f fd) (g : mg "judged" = some (.ref f)) (b : Binds K fd ["letters", "one", "other"] []) : DefP P w K mg base 5 "judged" 3 c_judged :=
  DefP.mk F (fn_pv (k := 4) F sc_judged rfl (fun cdv A outer s H E C tk po =>
  ess_cons (es_drop (ev_call C tk (DefP.at D_check_letters) (ea_cons (ev_var 0) ea_nil)))
  (ess_cons (es_set false (pasgC C (i := 3) (own := [("letter", 6)]) (T := (.one 6)) (ft := tTrue) (fe := y_judged_1) ⟨by decide, (ei_of (ev_var 0)).pi, blkOk_by (by rfl), fun s H C1 cl fp => tg_one (XOk.blk C) (i := 6), fun s H C1 cl fp => pts_true, fun s H C1 cl fp => (ev_subs (XOk.blk C) (ev_var 6) ev_int).pe⟩ (by rfl) (by rfl) (by rfl) (by rfl)))
  (ess_cons (es_for po C (T := (.one 4)) (ei_of (ev_tup (ea_cons (ev_var 1) (ea_cons (ev_var 2) ea_nil)))) (tg_one C (i := 4)) (ess_one (es_if (Ew.et (ew_or (et_not (et_of (ev_isiB T.n_isinstance (ev_var 4) T.n_str boot_str ty_str))) (ew_or1 (et_notIn (ev_var 4) (ev_var 3) C)))) (ess_one (es_raiseK C tk T.e_BadName)) ess_nil)))
  (ess_cons (es_set false (pasg C (i := 5) (ev_call C tk (DefP.at D_ways_from) (ea_cons (ev_call C tk (DefP.at D_tied_of) (ea_cons (ev_var 0) ea_nil)) (ea_cons (ev_var 1) ea_nil)))))
  (ess_one (es_ret (ev_if (et_in (ev_var 2) (ev_var 5) C) (ev_make C tk (MakP.at D_Together___init__) (ea_cons (ev_subs C (ev_var 5) (ev_var 2)) ea_nil)) (ev_make C tk (MakP.at D_Apart___init__) (ea_cons (ev_sorted C T.n_sorted (ev_list C T.n_list (ev_var 5))) ea_nil)))))))))) g b
abbrev s__law_turned : Stmt := top 62
theorem sc__law_turned : FnScope ["_law_letters", "_law_by", "_law_spot"] ["_law_letters", "_law_by"] (defScope s__law_turned) := ⟨rfl, rfl, rfl, by decide +kernel, rfl, by decide +kernel, by decide +kernel⟩
theorem ok__law_turned (T : Txt K mg) (F : Fun K "_law_turned" "_law_turned" s__law_turned f fd) (g : mg "_law_turned" = some (.ref f)) (b : Binds K fd ["_law_letters", "_law_by"] []) : DefP P w K mg base 1 "_law_turned" 2 c__law_turned :=
  DefP.mk F (fn_pv (k := 0) F sc__law_turned rfl (fun cdv A outer s H E C tk po =>
  ess_cons (es_set false (pasg C (i := 2) (ev_mod (ev_var 1) (ev_len T.n_len (ev_var 0)))))
  (ess_one (es_ret (ev_add (ev_sl (ev_var 0) (eo_some (ev_var 2)) eo_none) (ev_sl (ev_var 0) eo_none (eo_some (ev_var 2)))))))) g b
abbrev s__law_parents_right : Stmt := top 63
theorem sc__law_parents_right : FnScope ["_law_by", "_law_cases", "_law_letters", "_law_words", "_law_signs", "_law_due", "_law_at"] ["_law_by"] (defScope s__law_parents_right) := ⟨rfl, rfl, rfl, by decide +kernel, rfl, by decide +kernel, by decide +kernel⟩
theorem ok__law_parents_right (T : Txt K mg) (D__law_turned : DefP P w K mg base 1 "_law_turned" 2 c__law_turned) (D_parents : DefP P w K mg base 4 "parents" 1 c_parents) (F : Fun K "_law_parents_right" "_law_parents_right" s__law_parents_right f fd) (g : mg "_law_parents_right" = some (.ref f)) (b : Binds K fd ["_law_by"] []) : DefP P w K mg base 5 "_law_parents_right" 1 c__law_parents_right :=
  DefP.mk F (fn_pv (k := 4) F sc__law_parents_right rfl (fun cdv A outer s H E C tk po =>
  ess_cons (es_set false (pasg C (i := 1) (ev_lst (ea_cons (ev_tup (ea_cons (ev_lst (ea_cons (ev_tup (ea_cons ev_str (ea_cons (ev_lst (ea_cons ev_str (ea_cons ev_str ea_nil))) (ea_cons ev_str ea_nil)))) (ea_cons (ev_tup (ea_cons ev_str (ea_cons (ev_lst (ea_cons ev_str (ea_cons ev_str ea_nil))) (ea_cons ev_str ea_nil)))) ea_nil))) (ea_cons ev_str ea_nil))) ea_nil))))
  (ess_cons (es_set false (pasg C (i := 1) (ev_add (ev_var 1) (ev_lst (ea_cons (ev_tup (ea_cons (ev_lst (ea_cons (ev_tup (ea_cons ev_str (ea_cons (ev_lst (ea_cons ev_str ea_nil)) (ea_cons ev_str ea_nil)))) ea_nil)) (ea_cons ev_str ea_nil))) (ea_cons (ev_tup (ea_cons (ev_lst (ea_cons (ev_tup (ea_cons ev_str (ea_cons (ev_lst (ea_cons ev_str (ea_cons ev_str (ea_cons ev_str ea_nil)))) (ea_cons ev_str ea_nil)))) ea_nil)) (ea_cons ev_str ea_nil))) ea_nil))))))
  (ess_cons (es_set false (pasg C (i := 1) (ev_add (ev_var 1) (ev_lst (ea_cons (ev_tup (ea_cons (ev_lst (ea_cons (ev_tup (ea_cons ev_str (ea_cons (ev_lst (ea_cons ev_str ea_nil)) (ea_cons ev_str ea_nil)))) (ea_cons (ev_tup (ea_cons ev_str (ea_cons (ev_lst (ea_cons ev_str ea_nil)) (ea_cons ev_str ea_nil)))) (ea_cons (ev_tup (ea_cons ev_str (ea_cons (ev_lst (ea_cons ev_str ea_nil)) (ea_cons ev_str ea_nil)))) (ea_cons (ev_tup (ea_cons ev_str (ea_cons (ev_lst (ea_cons ev_str ea_nil)) (ea_cons ev_str ea_nil)))) ea_nil))))) (ea_cons ev_str ea_nil))) ea_nil)))))
  (ess_cons (es_set false (pasg C (i := 1) (ev_add (ev_var 1) (ev_lst (ea_cons (ev_tup (ea_cons (ev_lst (ea_cons (ev_tup (ea_cons ev_str (ea_cons (ev_lst (ea_cons ev_str ea_nil)) (ea_cons ev_str ea_nil)))) (ea_cons (ev_tup (ea_cons ev_str (ea_cons (ev_lst (ea_cons ev_str (ea_cons ev_str ea_nil))) (ea_cons ev_str ea_nil)))) ea_nil))) (ea_cons ev_str ea_nil))) ea_nil)))))
  (ess_cons (es_set false (pasg C (i := 1) (ev_add (ev_var 1) (ev_lst (ea_cons (ev_tup (ea_cons (ev_lst (ea_cons (ev_tup (ea_cons ev_str (ea_cons (ev_lst (ea_cons ev_str ea_nil)) (ea_cons ev_str ea_nil)))) (ea_cons (ev_tup (ea_cons ev_str (ea_cons (ev_lst (ea_cons ev_str (ea_cons ev_str ea_nil))) (ea_cons ev_str ea_nil)))) ea_nil))) (ea_cons ev_str ea_nil))) ea_nil)))))
  (ess_cons (es_set false (pasg C (i := 1) (ev_add (ev_var 1) (ev_lst (ea_cons (ev_tup (ea_cons (ev_lst (ea_cons (ev_tup (ea_cons ev_str (ea_cons (ev_lst (ea_cons ev_str ea_nil)) (ea_cons ev_str ea_nil)))) (ea_cons (ev_tup (ea_cons ev_str (ea_cons (ev_lst (ea_cons ev_str ea_nil)) (ea_cons ev_str ea_nil)))) (ea_cons (ev_tup (ea_cons ev_str (ea_cons (ev_lst (ea_cons ev_str (ea_cons ev_str ea_nil))) (ea_cons ev_str ea_nil)))) ea_nil)))) (ea_cons ev_str ea_nil))) ea_nil)))))
  (ess_cons (es_set false (pasg C (i := 2) (ev_lst (ea_cons (ev_tup (ea_cons ev_str (ea_cons (ev_lst (ea_cons ev_str (ea_cons ev_str (ea_cons ev_str ea_nil)))) (ea_cons ev_str ea_nil)))) (ea_cons (ev_tup (ea_cons ev_str (ea_cons (ev_lst (ea_cons ev_str (ea_cons ev_str ea_nil))) (ea_cons ev_str ea_nil)))) (ea_cons (ev_tup (ea_cons ev_str (ea_cons (ev_lst (ea_cons ev_str (ea_cons ev_str ea_nil))) (ea_cons ev_str ea_nil)))) ea_nil))))))
  (ess_cons (es_set false (pasg C (i := 1) (ev_add (ev_var 1) (ev_lst (ea_cons (ev_tup (ea_cons (ev_var 2) (ea_cons ev_str ea_nil))) ea_nil)))))
  (ess_cons (es_for po C (T := (.many [2, 3])) (ei_of (ev_var 1)) (tg_many C (is := [2, 3]) (tg_cons C (i := 2) (is := [3]) (tg_cons C (i := 3) (is := []) tg_nil))) (ess_cons (es_par2 C (i := 4) (j := 5) (ea_cons (ev_split (ev_var 3) ev_str) (ea_cons (ev_lst ea_nil) ea_nil)) (by decide) (by rfl) (by rfl) (by rfl))
  (ess_cons (es_for po C (T := (.one 6)) (ei_range3 T.n_range (ea_cons ev_int (ea_cons (ev_len T.n_len (ev_var 4)) (ea_cons ev_int ea_nil)))) (tg_one C (i := 6)) (ess_one (es_append (p_var 5) (ev_tup (ea_cons (ev_subs C (ev_var 4) (ev_var 6)) (ea_cons (ev_subs C (ev_var 4) (ev_add (ev_var 6) ev_int)) ea_nil))))))
  (ess_one (es_if (et_ne (ev_call C tk (DefP.at D_parents) (ea_cons (ev_call C tk (DefP.at D__law_turned) (ea_cons (ev_var 2) (ea_cons (ev_var 0) ea_nil))) ea_nil)) (ev_var 5) C) (ess_one (es_ret ev_bl)) ess_nil)))))
  (ess_one (es_ret ev_bl)))))))))))) g b
abbrev s__law_titles_right : Stmt := top 64
theorem sc__law_titles_right : FnScope ["_law_cases", "_law_bad", "_law_title", "_law_due"] [] (defScope s__law_titles_right) := ⟨rfl, rfl, rfl, by decide +kernel, rfl, by decide +kernel, by decide +kernel⟩
theorem ok__law_titles_right (T : Txt K mg) (D_bare : DefP P w K mg base 2 "bare" 1 c_bare) (F : Fun K "_law_titles_right" "_law_titles_right" s__law_titles_right f fd) (g : mg "_law_titles_right" = some (.ref f)) (b : Binds K fd [] []) : DefP P w K mg base 3 "_law_titles_right" 0 c__law_titles_right :=
  DefP.mk F (fn_pv (k := 2) F sc__law_titles_right rfl (fun cdv A outer s H E C tk po =>
  ess_cons (es_set false (pasg C (i := 0) (ev_lst (ea_cons (ev_tup (ea_cons ev_str (ea_cons ev_str ea_nil))) (ea_cons (ev_tup (ea_cons ev_str (ea_cons ev_str ea_nil))) (ea_cons (ev_tup (ea_cons ev_str (ea_cons ev_str ea_nil))) (ea_cons (ev_tup (ea_cons ev_str (ea_cons ev_str ea_nil))) ea_nil)))))))
  (ess_cons (es_set false (pasg C (i := 0) (ev_add (ev_var 0) (ev_lst (ea_cons (ev_tup (ea_cons ev_str (ea_cons ev_str ea_nil))) (ea_cons (ev_tup (ea_cons ev_str (ea_cons ev_str ea_nil))) ea_nil))))))
  (ess_cons (es_if (et_of (ev_any C T.n_any (ev_comp C (own := [("_law_title", 2), ("_law_due", 3)]) (T := (.many [2, 3])) (ft := tTrue) (fe := y__law_titles_right_1) ⟨by decide, (ei_of (ev_var 0)).pi, blkOk_by (by rfl), fun s H C1 cl fp => tg_many (XOk.blk C) (is := [2, 3]) (tg_cons (XOk.blk C) (i := 2) (is := [3]) (tg_cons (XOk.blk C) (i := 3) (is := []) tg_nil)), fun s H C1 cl fp => pts_true, fun s H C1 cl fp => (ev_ne ((XOk.blk C)) (ev_call (XOk.blk C) takes0 (DefP.at D_bare) (ea_cons (ev_var 2) ea_nil)) (ev_var 3)).pe⟩))) (ess_one (es_ret ev_bl)) ess_nil)
  (ess_cons (es_for po C (T := (.one 1)) (ei_of (ev_tup (ea_cons ev_str (ea_cons ev_str (ea_cons ev_str (ea_cons ev_str (ea_cons ev_non ea_nil))))))) (tg_one C (i := 1)) (ess_one (es_tryN rfl rfl tk (ig := 1) C (cat_cons T.x_BadTitle_BadTitle_BadTitle (cat_nil)) T.x_BadTitle_BadTitle_BadTitle.hth (fun W pn xe tk C => ev_call C tk (DefP.at D_bare) (ea_cons (ev_var 1) ea_nil)))))
  (ess_one (es_ret ev_bl))))))) g b
abbrev s__law_talks_right_v2 : Stmt := top 65
theorem sc__law_talks_right_v2 : FnScope ["_law_by", "_law_cases", "_law_letters", "_law_out", "_law_lots"] ["_law_by"] (defScope s__law_talks_right_v2) := ⟨rfl, rfl, rfl, by decide +kernel, rfl, by decide +kernel, by decide +kernel⟩
theorem ok__law_talks_right_v2 (T : Txt K mg) (D__law_turned : DefP P w K mg base 1 "_law_turned" 2 c__law_turned) (D_split : DefP P w K mg base 4 "split" 1 c_split) (D_talks : DefP P w K mg base 5 "talks" 1 c_talks) (D_Together___init__ : MakP P w K mg base 2 [84, 111, 103, 101, 116, 104, 101, 114] 1 i_Together___init__) (D_Apart_shows : MetP P w K mg base 5 [65, 112, 97, 114, 116] "shows" 4 c_Apart_shows) (D_Together_shows : MetP P w K mg base 5 [84, 111, 103, 101, 116, 104, 101, 114] "shows" 4 c_Together_shows) (D_Apart___init__ : MakP P w K mg base 2 [65, 112, 97, 114, 116] 1 i_Apart___init__) (D_judged : DefP P w K mg base 5 "judged" 3 c_judged) (F : Fun K "_law_talks_right" "_law_talks_right" s__law_talks_right_v2 f fd) (g : mg "_law_talks_right" = some (.ref f)) (b : Binds K fd ["_law_by"] []) : DefP P w K mg base 6 "_law_talks_right" 1 c__law_talks_right_v2 :=
  DefP.mk F (fn_pv (k := 5) F sc__law_talks_right_v2 rfl (fun cdv A outer s H E C tk po =>
  ess_cons (es_set false (pasg C (i := 1) (ev_lst (ea_cons (ev_tup (ea_cons (ev_lst (ea_cons (ev_tup (ea_cons ev_str (ea_cons (ev_lst (ea_cons ev_str ea_nil)) (ea_cons ev_str ea_nil)))) (ea_cons (ev_tup (ea_cons ev_str (ea_cons (ev_lst (ea_cons ev_str ea_nil)) (ea_cons ev_str ea_nil)))) ea_nil))) (ea_cons (ev_lst ea_nil) (ea_cons (ev_lst (ea_cons (ev_lst (ea_cons ev_str (ea_cons ev_str ea_nil))) ea_nil)) ea_nil)))) ea_nil))))
  (ess_cons (es_set false (pasg C (i := 1) (ev_add (ev_var 1) (ev_lst (ea_cons (ev_tup (ea_cons (ev_lst (ea_cons (ev_tup (ea_cons ev_str (ea_cons (ev_lst ea_nil) (ea_cons ev_str ea_nil)))) (ea_cons (ev_tup (ea_cons ev_str (ea_cons (ev_lst (ea_cons ev_str (ea_cons ev_str ea_nil))) (ea_cons ev_str ea_nil)))) ea_nil))) (ea_cons (ev_lst (ea_cons ev_str ea_nil)) (ea_cons (ev_lst (ea_cons (ev_lst (ea_cons ev_str ea_nil)) (ea_cons (ev_lst (ea_cons ev_str ea_nil)) ea_nil))) ea_nil)))) ea_nil)))))
  (ess_cons (es_set false (pasg C (i := 1) (ev_add (ev_var 1) (ev_lst (ea_cons (ev_tup (ea_cons (ev_lst (ea_cons (ev_tup (ea_cons ev_str (ea_cons (ev_lst ea_nil) (ea_cons ev_str ea_nil)))) (ea_cons (ev_tup (ea_cons ev_str (ea_cons (ev_lst (ea_cons ev_str ea_nil)) (ea_cons ev_str ea_nil)))) (ea_cons (ev_tup (ea_cons ev_str (ea_cons (ev_lst ea_nil) (ea_cons ev_str ea_nil)))) ea_nil)))) (ea_cons (ev_lst (ea_cons ev_str ea_nil)) (ea_cons (ev_lst (ea_cons (ev_lst (ea_cons ev_str ea_nil)) (ea_cons (ev_lst (ea_cons ev_str ea_nil)) (ea_cons (ev_lst (ea_cons ev_str ea_nil)) ea_nil)))) ea_nil)))) ea_nil)))))
  (ess_cons (es_set false (pasg C (i := 1) (ev_add (ev_var 1) (ev_lst (ea_cons (ev_tup (ea_cons (ev_lst (ea_cons (ev_tup (ea_cons ev_str (ea_cons (ev_lst ea_nil) (ea_cons ev_str ea_nil)))) (ea_cons (ev_tup (ea_cons ev_str (ea_cons (ev_lst ea_nil) (ea_cons ev_str ea_nil)))) ea_nil))) (ea_cons (ev_lst ea_nil) (ea_cons (ev_lst (ea_cons (ev_lst (ea_cons ev_str (ea_cons ev_str ea_nil))) ea_nil)) ea_nil)))) ea_nil)))))
  (ess_cons (es_set false (pasg C (i := 1) (ev_add (ev_var 1) (ev_lst (ea_cons (ev_tup (ea_cons (ev_lst (ea_cons (ev_tup (ea_cons ev_str (ea_cons (ev_lst ea_nil) (ea_cons ev_str ea_nil)))) (ea_cons (ev_tup (ea_cons ev_str (ea_cons (ev_lst ea_nil) (ea_cons ev_str ea_nil)))) ea_nil))) (ea_cons (ev_lst ea_nil) (ea_cons (ev_lst (ea_cons (ev_lst (ea_cons ev_str ea_nil)) (ea_cons (ev_lst (ea_cons ev_str ea_nil)) ea_nil))) ea_nil)))) ea_nil)))))
  (ess_cons (es_set false (pasg C (i := 2) (ev_lst (ea_cons (ev_tup (ea_cons ev_str (ea_cons (ev_lst ea_nil) (ea_cons ev_str ea_nil)))) (ea_cons (ev_tup (ea_cons ev_str (ea_cons (ev_lst (ea_cons ev_str ea_nil)) (ea_cons ev_str ea_nil)))) (ea_cons (ev_tup (ea_cons ev_str (ea_cons (ev_lst (ea_cons ev_str (ea_cons ev_str ea_nil))) (ea_cons ev_str ea_nil)))) (ea_cons (ev_tup (ea_cons ev_str (ea_cons (ev_lst (ea_cons ev_str ea_nil)) (ea_cons ev_str ea_nil)))) ea_nil)))))))
  (ess_cons (es_set false (pasg C (i := 1) (ev_add (ev_var 1) (ev_lst (ea_cons (ev_tup (ea_cons (ev_var 2) (ea_cons (ev_lst (ea_cons ev_str ea_nil)) (ea_cons (ev_lst (ea_cons (ev_lst (ea_cons ev_str (ea_cons ev_str (ea_cons ev_str ea_nil)))) (ea_cons (ev_lst (ea_cons ev_str ea_nil)) ea_nil))) ea_nil)))) ea_nil)))))
  (ess_cons (es_for po C (T := (.many [2, 3, 4])) (ei_of (ev_var 1)) (tg_many C (is := [2, 3, 4]) (tg_cons C (i := 2) (is := [3, 4]) (tg_cons C (i := 3) (is := [4]) (tg_cons C (i := 4) (is := []) tg_nil)))) (ess_one (es_if (Ew.et (ew_or (et_ne (ev_call C tk (DefP.at D_split) (ea_cons (ev_call C tk (DefP.at D__law_turned) (ea_cons (ev_var 2) (ea_cons (ev_var 0) ea_nil))) ea_nil)) (ev_var 3) C) (ew_or1 (et_ne (ev_call C tk (DefP.at D_talks) (ea_cons (ev_call C tk (DefP.at D__law_turned) (ea_cons (ev_var 2) (ea_cons (ev_var 0) ea_nil))) ea_nil)) (ev_var 4) C)))) (ess_one (es_ret ev_bl)) ess_nil)))
  (ess_cons (es_set false (pasg C (i := 2) (ev_call C tk (DefP.at D__law_turned) (ea_cons (ev_subs C (ev_subs C (ev_var 1) ev_int) ev_int) (ea_cons (ev_var 0) ea_nil)))))
  (ess_cons (es_if (Ew.et (ew_or (et_not (et_of (ev_meth C tk (mets_cons (MetP.at D_Together_shows) (mets_cons (MetP.at D_Apart_shows) (mets_nil))) (ev_make C tk (MakP.at D_Together___init__) (ea_cons (ev_lst (ea_cons ev_str (ea_cons ev_str (ea_cons ev_str ea_nil)))) ea_nil)) (ea_cons (ev_var 2) (ea_cons ev_str (ea_cons ev_str ea_nil)))))) (ew_or1 (et_of (ev_meth C tk (mets_cons (MetP.at D_Together_shows) (mets_cons (MetP.at D_Apart_shows) (mets_nil))) (ev_make C tk (MakP.at D_Together___init__) (ea_cons (ev_lst (ea_cons ev_str (ea_cons ev_str ea_nil))) ea_nil)) (ea_cons (ev_var 2) (ea_cons ev_str (ea_cons ev_str ea_nil)))))))) (ess_one (es_ret ev_bl)) ess_nil)
  (ess_cons (es_if (Ew.et (ew_or (et_not (et_of (ev_meth C tk (mets_cons (MetP.at D_Together_shows) (mets_cons (MetP.at D_Apart_shows) (mets_nil))) (ev_make C tk (MakP.at D_Together___init__) (ea_cons (ev_lst (ea_cons ev_str ea_nil)) ea_nil)) (ea_cons (ev_var 2) (ea_cons ev_str (ea_cons ev_str ea_nil)))))) (ew_or1 (et_of (ev_meth C tk (mets_cons (MetP.at D_Together_shows) (mets_cons (MetP.at D_Apart_shows) (mets_nil))) (ev_make C tk (MakP.at D_Together___init__) (ea_cons (ev_lst (ea_cons ev_str (ea_cons ev_str ea_nil))) ea_nil)) (ea_cons (ev_var 2) (ea_cons ev_str (ea_cons ev_str ea_nil)))))))) (ess_one (es_ret ev_bl)) ess_nil)
  (ess_cons (es_set false (pasg C (i := 2) (ev_call C tk (DefP.at D__law_turned) (ea_cons (ev_subs C (ev_subs C (ev_var 1) ev_int) ev_int) (ea_cons (ev_var 0) ea_nil)))))
  (ess_cons (es_if (Ew.et (ew_or (et_not (et_of (ev_meth C tk (mets_cons (MetP.at D_Together_shows) (mets_cons (MetP.at D_Apart_shows) (mets_nil))) (ev_make C tk (MakP.at D_Together___init__) (ea_cons (ev_lst (ea_cons ev_str (ea_cons ev_str ea_nil))) ea_nil)) (ea_cons (ev_var 2) (ea_cons ev_str (ea_cons ev_str ea_nil)))))) (ew_or1 (et_of (ev_meth C tk (mets_cons (MetP.at D_Together_shows) (mets_cons (MetP.at D_Apart_shows) (mets_nil))) (ev_make C tk (MakP.at D_Apart___init__) (ea_cons (ev_lst (ea_cons ev_str ea_nil)) ea_nil)) (ea_cons (ev_var 2) (ea_cons ev_str (ea_cons ev_str ea_nil)))))))) (ess_one (es_ret ev_bl)) ess_nil)
  (ess_cons (es_set false (pasg C (i := 2) (ev_call C tk (DefP.at D__law_turned) (ea_cons (ev_subs C (ev_subs C (ev_var 1) ev_int) ev_int) (ea_cons (ev_var 0) ea_nil)))))
  (ess_cons (es_if (Ew.et (ew_or (et_of (ev_meth C tk (mets_cons (MetP.at D_Together_shows) (mets_cons (MetP.at D_Apart_shows) (mets_nil))) (ev_make C tk (MakP.at D_Apart___init__) (ea_cons (ev_lst (ea_cons ev_str ea_nil)) ea_nil)) (ea_cons (ev_var 2) (ea_cons ev_str (ea_cons ev_str ea_nil))))) (ew_or1 (et_not (et_of (ev_meth C tk (mets_cons (MetP.at D_Together_shows) (mets_cons (MetP.at D_Apart_shows) (mets_nil))) (ev_make C tk (MakP.at D_Apart___init__) (ea_cons (ev_lst (ea_cons ev_str (ea_cons ev_str ea_nil))) ea_nil)) (ea_cons (ev_var 2) (ea_cons ev_str (ea_cons ev_str ea_nil))))))))) (ess_one (es_ret ev_bl)) ess_nil)
  (ess_cons (es_if (et_of (ev_meth C tk (mets_cons (MetP.at D_Together_shows) (mets_cons (MetP.at D_Apart_shows) (mets_nil))) (ev_make C tk (MakP.at D_Apart___init__) (ea_cons (ev_lst (ea_cons ev_str (ea_cons ev_str (ea_cons ev_str ea_nil)))) ea_nil)) (ea_cons (ev_var 2) (ea_cons ev_str (ea_cons ev_str ea_nil))))) (ess_one (es_ret ev_bl)) ess_nil)
  (ess_one (es_ret (ev_and (ev_isiO T.n_isinstance T.d_Apart (isi_cons T.q_Together_Apart (isi_cons T.q_Apart_Apart (isi_cons T.q_Forest_Apart (isi_cons T.q_Wrong_Apart (isi_cons T.q_Desk_Apart (isi_nil)))))) (ev_call C tk (DefP.at D_judged) (ea_cons (ev_var 2) (ea_cons ev_str (ea_cons ev_str ea_nil))))) (ev_one (ev_meth C tk (mets_cons (MetP.at D_Together_shows) (mets_cons (MetP.at D_Apart_shows) (mets_nil))) (ev_make C tk (MakP.at D_Apart___init__) (ea_cons (ev_lst (ea_cons ev_str ea_nil)) ea_nil)) (ea_cons (ev_var 2) (ea_cons ev_str (ea_cons ev_str ea_nil))))))))))))))))))))))))) g b
abbrev s__law_rows_right_v4 : Stmt := top 66
theorem sc__law_rows_right_v4 : FnScope ["_law_by", "_law_cases", "_law_letters", "_law_rows", "_law_wrong", "_law_at", "_law_found", "_law_due"] ["_law_by"] (defScope s__law_rows_right_v4) := ⟨rfl, rfl, rfl, by decide +kernel, rfl, by decide +kernel, by decide +kernel⟩
theorem ok__law_rows_right_v4 (T : Txt K mg) (D_drawn_drawn : DefP P w K mg base 125 "drawn_drawn" 1 c_drawn) (D__law_turned : DefP P w K mg base 1 "_law_turned" 2 c__law_turned) (D_read : DefP P w K mg base 4 "read" 1 c_read) (F : Fun K "_law_rows_right" "_law_rows_right" s__law_rows_right_v4 f fd) (g : mg "_law_rows_right" = some (.ref f)) (b : Binds K fd ["_law_by"] []) : DefP P w K mg base 126 "_law_rows_right" 1 c__law_rows_right_v4 :=
  DefP.mk F (fn_pv (k := 125) F sc__law_rows_right_v4 rfl (fun cdv A outer s H E C tk po =>
  ess_cons (es_set false (pasg C (i := 1) (ev_lst (ea_cons (ev_tup (ea_cons (ev_lst (ea_cons (ev_tup (ea_cons ev_str (ea_cons (ev_lst (ea_cons ev_str (ea_cons ev_str ea_nil))) (ea_cons ev_str ea_nil)))) (ea_cons (ev_tup (ea_cons ev_str (ea_cons (ev_lst (ea_cons ev_str (ea_cons ev_str ea_nil))) (ea_cons ev_str ea_nil)))) ea_nil))) (ea_cons (ev_lst (ea_cons ev_str (ea_cons ev_str (ea_cons ev_str ea_nil)))) ea_nil))) ea_nil))))
  (ess_cons (es_set false (pasg C (i := 1) (ev_add (ev_var 1) (ev_lst (ea_cons (ev_tup (ea_cons (ev_lst (ea_cons (ev_tup (ea_cons ev_str (ea_cons (ev_lst (ea_cons ev_str ea_nil)) (ea_cons ev_str ea_nil)))) (ea_cons (ev_tup (ea_cons ev_str (ea_cons (ev_lst ea_nil) (ea_cons ev_str ea_nil)))) ea_nil))) (ea_cons (ev_lst (ea_cons ev_str (ea_cons ev_str ea_nil))) ea_nil))) ea_nil)))))
  (ess_cons (es_set false (pasg C (i := 1) (ev_add (ev_var 1) (ev_lst (ea_cons (ev_tup (ea_cons (ev_lst (ea_cons (ev_tup (ea_cons ev_str (ea_cons (ev_lst (ea_cons ev_str (ea_cons ev_str ea_nil))) (ea_cons ev_str ea_nil)))) (ea_cons (ev_tup (ea_cons ev_str (ea_cons (ev_lst (ea_cons ev_str (ea_cons ev_str ea_nil))) (ea_cons ev_str ea_nil)))) ea_nil))) (ea_cons (ev_lst (ea_cons ev_str (ea_cons ev_str (ea_cons ev_str (ea_cons ev_str (ea_cons ev_str ea_nil)))))) ea_nil))) ea_nil)))))
  (ess_cons (es_set false (pasg C (i := 1) (ev_add (ev_var 1) (ev_lst (ea_cons (ev_tup (ea_cons (ev_lst ea_nil) (ea_cons (ev_lst ea_nil) ea_nil))) ea_nil)))))
  (ess_cons (es_set false (pasg C (i := 1) (ev_add (ev_var 1) (ev_lst (ea_cons (ev_tup (ea_cons (ev_lst (ea_cons (ev_tup (ea_cons ev_str (ea_cons (ev_lst ea_nil) (ea_cons ev_str ea_nil)))) (ea_cons (ev_tup (ea_cons ev_str (ea_cons (ev_lst (ea_cons ev_str (ea_cons ev_str ea_nil))) (ea_cons ev_str ea_nil)))) ea_nil))) (ea_cons (ev_lst (ea_cons ev_str (ea_cons ev_str ea_nil))) ea_nil))) ea_nil)))))
  (ess_cons (es_for po C (T := (.many [2, 3])) (ei_of (ev_var 1)) (tg_many C (is := [2, 3]) (tg_cons C (i := 2) (is := [3]) (tg_cons C (i := 3) (is := []) tg_nil))) (ess_one (es_if (et_ne (ev_call C tk (DefP.at D_drawn_drawn) (ea_cons (ev_if (et_ne (ev_var 2) (ev_lst ea_nil) C) (ev_call C tk (DefP.at D__law_turned) (ea_cons (ev_var 2) (ea_cons (ev_var 0) ea_nil))) (ev_lst ea_nil)) ea_nil)) (ev_var 3) C) (ess_one (es_ret ev_bl)) ess_nil)))
  (ess_cons (es_set false (pasg C (i := 4) (ev_lst (ea_cons (ev_tup (ea_cons (ev_lst (ea_cons ev_str (ea_cons ev_str ea_nil))) (ea_cons ev_int ea_nil))) (ea_cons (ev_tup (ea_cons (ev_lst (ea_cons ev_str (ea_cons ev_str ea_nil))) (ea_cons ev_int ea_nil))) (ea_cons (ev_tup (ea_cons (ev_lst (ea_cons ev_str (ea_cons ev_str ea_nil))) (ea_cons ev_int ea_nil))) (ea_cons (ev_tup (ea_cons (ev_lst (ea_cons ev_str ea_nil)) (ea_cons ev_int ea_nil))) (ea_cons (ev_tup (ea_cons (ev_lst (ea_cons ev_str ea_nil)) (ea_cons ev_int ea_nil))) ea_nil))))))))
  (ess_cons (es_set false (pasg C (i := 4) (ev_add (ev_var 4) (ev_lst (ea_cons (ev_tup (ea_cons (ev_lst (ea_cons ev_str ea_nil)) (ea_cons ev_int ea_nil))) (ea_cons (ev_tup (ea_cons (ev_lst (ea_cons ev_str ea_nil)) (ea_cons ev_int ea_nil))) ea_nil))))))
  (ess_cons (es_for po C (T := (.many [3, 5])) (ei_of (ev_var 4)) (tg_many C (is := [3, 5]) (tg_cons C (i := 3) (is := [5]) (tg_cons C (i := 5) (is := []) tg_nil))) (ess_cons (es_set false (pasg C (i := 6) (ev_call C tk (DefP.at D_read) (ea_cons (ev_var 3) ea_nil))))
  (ess_one (es_if (Ew.et (ew_or (et_not (et_of (ev_isiO T.n_isinstance T.d_Wrong (isi_cons T.q_Together_Wrong (isi_cons T.q_Apart_Wrong (isi_cons T.q_Forest_Wrong (isi_cons T.q_Wrong_Wrong (isi_cons T.q_Desk_Wrong (isi_nil)))))) (ev_var 6)))) (ew_or1 (et_ne (ev_attr (att_cons T.t_row_Wrong (att_nil)) (ev_var 6)) (ev_var 5) C)))) (ess_one (es_ret ev_bl)) ess_nil))))
  (ess_cons (es_set false (pasg C (i := 6) (ev_call C tk (DefP.at D_read) (ea_cons (ev_lst (ea_cons ev_str (ea_cons ev_str (ea_cons ev_str (ea_cons ev_str (ea_cons ev_str ea_nil)))))) ea_nil))))
  (ess_cons (es_set false (pasg C (i := 7) (ev_lst (ea_cons (ev_tup (ea_cons ev_str (ea_cons ev_bl (ea_cons ev_str ea_nil)))) (ea_cons (ev_tup (ea_cons ev_str (ea_cons ev_bl (ea_cons ev_str ea_nil)))) (ea_cons (ev_tup (ea_cons ev_str (ea_cons ev_bl (ea_cons ev_str ea_nil)))) (ea_cons (ev_tup (ea_cons ev_str (ea_cons ev_bl (ea_cons ev_str ea_nil)))) (ea_cons (ev_tup (ea_cons ev_str (ea_cons ev_bl (ea_cons ev_str ea_nil)))) ea_nil))))))))
  (ess_cons (es_if (Ew.et (ew_or (et_not (et_of (ev_isiO T.n_isinstance T.d_Forest (isi_cons T.q_Together_Forest (isi_cons T.q_Apart_Forest (isi_cons T.q_Forest_Forest (isi_cons T.q_Wrong_Forest (isi_cons T.q_Desk_Forest (isi_nil)))))) (ev_var 6)))) (ew_or (et_ne (ev_attr (att_cons T.t_ties_Forest (att_nil)) (ev_var 6)) (ev_var 7) C) (ew_or1 (et_ne (ev_attr (att_cons T.t_ties_Forest (att_nil)) (ev_call C tk (DefP.at D_read) (ea_cons (ev_lst ea_nil) ea_nil))) (ev_lst ea_nil) C))))) (ess_one (es_ret ev_bl)) ess_nil)
  (ess_one (es_ret (ev_isiO T.n_isinstance T.d_Wrong (isi_cons T.q_Together_Wrong (isi_cons T.q_Apart_Wrong (isi_cons T.q_Forest_Wrong (isi_cons T.q_Wrong_Wrong (isi_cons T.q_Desk_Wrong (isi_nil)))))) (ev_call C tk (DefP.at D_read) (ea_cons (ev_lst (ea_cons ev_str ea_nil)) ea_nil)))))))))))))))))) g b
abbrev s__law_desk_right_v2 : Stmt := top 67
theorem sc__law_desk_right_v2 : FnScope ["_law_desk", "_law_told", "_law_due"] [] (defScope s__law_desk_right_v2) := ⟨rfl, rfl, rfl, by decide +kernel, rfl, by decide +kernel, by decide +kernel⟩
theorem ok__law_desk_right_v2 (T : Txt K mg) (D_Desk___init__ : MakP P w K mg base 2 [68, 101, 115, 107] 0 i_Desk___init__) (D_Desk_go : MetM P w K mg base 4 [68, 101, 115, 107] [108, 121, 105, 110, 103] "go" 2 c_Desk_go) (D_Desk_come : MetM P w K mg base 4 [68, 101, 115, 107] [108, 121, 105, 110, 103] "come" 2 c_Desk_come) (D_Desk_letters : MetP P w K mg base 2 [68, 101, 115, 107] "letters" 1 c_Desk_letters) (D_Desk_drawn : MetP P w K mg base 126 [68, 101, 115, 107] "drawn" 1 c_Desk_drawn) (F : Fun K "_law_desk_right" "_law_desk_right" s__law_desk_right_v2 f fd) (g : mg "_law_desk_right" = some (.ref f)) (b : Binds K fd [] []) : DefP P w K mg base 127 "_law_desk_right" 0 c__law_desk_right_v2 :=
  DefP.mk F (fn_pv (k := 126) F sc__law_desk_right_v2 rfl (fun cdv A outer s H E C tk po =>
  ess_cons (es_set false (pasg C (i := 0) (ev_make0 C tk (MakP.at D_Desk___init__))))
  (ess_cons (xs_set C (i := 1) (xv_lst (xa_cons (xv_met C tk (MetM.at D_Desk_come) (p_var 0) (ea_cons (ev_tup (ea_cons ev_str (ea_cons (ev_lst (ea_cons ev_str ea_nil)) (ea_cons ev_str ea_nil)))) ea_nil)) (xa_cons (xv_met C tk (MetM.at D_Desk_come) (p_var 0) (ea_cons (ev_tup (ea_cons ev_str (ea_cons (ev_lst ea_nil) (ea_cons ev_str ea_nil)))) ea_nil)) (xa_cons (xv_met C tk (MetM.at D_Desk_go) (p_var 0) (ea_cons ev_str ea_nil)) (xa_cons (xv_met C tk (MetM.at D_Desk_go) (p_var 0) (ea_cons ev_str ea_nil)) (xa_nil)))))))
  (ess_cons (xs_cat C (j := 1) (xa_cons (xv_met C tk (MetM.at D_Desk_come) (p_var 0) (ea_cons (ev_tup (ea_cons ev_str (ea_cons (ev_lst (ea_cons ev_str ea_nil)) (ea_cons ev_str ea_nil)))) ea_nil)) (xa_nil)) (by rfl) (by first | exact Or.inl rfl | exact Or.inr rfl) (p_var 1))
  (ess_cons (es_set false (pasg C (i := 2) (ev_lst (ea_cons (ev_lst (ea_cons (ev_tup (ea_cons ev_str (ea_cons ev_non (ea_cons ev_str ea_nil)))) (ea_cons (ev_tup (ea_cons ev_str (ea_cons ev_non (ea_cons ev_str ea_nil)))) ea_nil))) (ea_cons (ev_lst ea_nil) (ea_cons (ev_lst ea_nil) (ea_cons (ev_lst (ea_cons (ev_tup (ea_cons ev_str (ea_cons ev_str (ea_cons ev_non ea_nil)))) (ea_cons (ev_tup (ea_cons ev_str (ea_cons ev_str (ea_cons ev_non ea_nil)))) ea_nil))) ea_nil)))))))
  (ess_cons (es_set false (pasg C (i := 2) (ev_add (ev_var 2) (ev_lst (ea_cons (ev_lst (ea_cons (ev_tup (ea_cons ev_str (ea_cons ev_non (ea_cons ev_str ea_nil)))) (ea_cons (ev_tup (ea_cons ev_str (ea_cons ev_non (ea_cons ev_str ea_nil)))) ea_nil))) ea_nil)))))
  (ess_cons (xs_if (Xw.xt (xw_or (xt_et (et_ne (ev_var 1) (ev_var 2) C)) (xw_or1 (xt_ne C (xv_met C tk (MetM.at D_Desk_come) (p_var 0) (ea_cons (ev_tup (ea_cons ev_str (ea_cons (ev_lst (ea_cons ev_str ea_nil)) (ea_cons ev_str ea_nil)))) ea_nil)) (ev_lst (ea_cons (ev_tup (ea_cons ev_str (ea_cons ev_str (ea_cons ev_str ea_nil)))) (ea_cons (ev_tup (ea_cons ev_str (ea_cons ev_non (ea_cons ev_str ea_nil)))) ea_nil))))))) (ess_one (es_ret ev_bl)) (ess_nil))
  (ess_one (es_ret (ev_and (ev_eq C (ev_meth0 C tk (mets_cons (MetP.at D_Desk_letters) (mets_nil)) (ev_var 0)) (ev_lst (ea_cons (ev_tup (ea_cons ev_str (ea_cons (ev_lst (ea_cons ev_str ea_nil)) (ea_cons ev_str ea_nil)))) (ea_cons (ev_tup (ea_cons ev_str (ea_cons (ev_lst (ea_cons ev_str ea_nil)) (ea_cons ev_str ea_nil)))) ea_nil)))) (ev_one (ev_eq C (ev_meth0 C tk (mets_cons (MetP.at D_Desk_drawn) (mets_nil)) (ev_var 0)) (ev_lst (ea_cons ev_str (ea_cons ev_str ea_nil))))))))))))))) g b
abbrev s_law : Stmt := top 68
theorem sc_law : FnScope ["_law_script", "_law_by"] ["_law_script"] (defScope s_law) := ⟨rfl, rfl, rfl, by decide +kernel, rfl, by decide +kernel, by decide +kernel⟩
theorem ok_law0 (T : Txt K mg) (D__law_parents_right : DefP P w K mg base 5 "_law_parents_right" 1 c__law_parents_right) (D__law_titles_right : DefP P w K mg base 3 "_law_titles_right" 0 c__law_titles_right) (D__law_talks_right : DefP P w K mg base 6 "_law_talks_right" 1 c__law_talks_right_v2) (D__law_rows_right : DefP P w K mg base 126 "_law_rows_right" 1 c__law_rows_right_v4) (D__law_desk_right : DefP P w K mg base 127 "_law_desk_right" 0 c__law_desk_right_v2) (F : Fun K "law" "law" s_law f fd) : FnOk P w K mg base (L2.CX P w) 128 f fd ["_law_script"] (spC ⟨K, mg⟩ 1 c_law) :=
  fn_pv (k := 127) F sc_law rfl (fun cdv A outer s H E C tk po =>
  ess_cons (es_set false (pasg C (i := 1) (ev_mod (ev_abs T.n_abs (ev_sum C T.n_sum (ev_sl (ev_var 0) eo_none (eo_some ev_int)))) ev_int)))
  (ess_cons (es_if (Ew.et (ew_or (et_not (et_of (ev_call C tk (DefP.at D__law_parents_right) (ea_cons (ev_var 1) ea_nil)))) (ew_or (et_not (et_of (ev_call0 C tk (DefP.at D__law_titles_right)))) (ew_or1 (et_not (et_of (ev_call C tk (DefP.at D__law_talks_right) (ea_cons (ev_var 1) ea_nil)))))))) (ess_one (es_ret ev_bl)) ess_nil)
  (ess_one (es_ret (ev_and (ev_call C tk (DefP.at D__law_rows_right) (ea_cons (ev_var 1) ea_nil)) (ev_one (ev_call0 C tk (DefP.at D__law_desk_right))))))))
end
end PV

namespace PV
open PySem PySem.Spec L2
theorem txt_mk {K : PySem.W.Frag} {h : Heap} {mg : Str → Option Value} {C_BadLetter C_BadLetters C_BadName C_BadRows C_BadTitle C_Known C_TooMany C_Apart C_Desk C_Forest C_Together C_Wrong : Addr} (X : K.In h) (G : h.Ns mainGlobals mg) {t_LONGEST_NAME} {t_LONGEST_ROW} {t_LONGEST_TITLE} {t_MOST} {t_MOST_ANSWERS} {t_MOST_ROWS} {t_SIGNS}
    (zu_Apart : PySem.W.nsIn K mainGlobals "Apart" = some (some (.ref C_Apart)))
    (zpg_Apart : PySem.W.plainGet K C_Apart Str.empty = true)
    (zhd_Apart : PySem.W.hasDictIn K C_Apart = true)
    (zpo_Apart : PySem.W.plainOver K C_Apart = true)
    (zsa_Apart : PySem.W.findIn K (.ref C_Apart) "__setattr__" = some (some (.builtin "object.__setattr__")))
    (zic_Apart : PySem.W.isClsIn K C_Apart = true)
    (zit_Apart : PySem.W.typeIn K (.ref C_Apart) = some (.type "type"))
    (zss_Apart : PySem.W.subIn K (.ref C_Apart) (.ref C_Apart) = some true)
    (zha_Apart : PySem.W.findIn K (.ref C_Apart) "__class__" = some (some (.builtin "object.__class__")))
    (zhm_Apart : PySem.W.mroIn K C_Apart (.type "object") = some true)
    (zu_Desk : PySem.W.nsIn K mainGlobals "Desk" = some (some (.ref C_Desk)))
    (zpg_Desk : PySem.W.plainGet K C_Desk Str.empty = true)
    (zhd_Desk : PySem.W.hasDictIn K C_Desk = true)
    (zpo_Desk : PySem.W.plainOver K C_Desk = true)
    (zsa_Desk : PySem.W.findIn K (.ref C_Desk) "__setattr__" = some (some (.builtin "object.__setattr__")))
    (zss_Desk : PySem.W.subIn K (.ref C_Desk) (.ref C_Desk) = some true)
    (zha_Desk : PySem.W.findIn K (.ref C_Desk) "__class__" = some (some (.builtin "object.__class__")))
    (zhm_Desk : PySem.W.mroIn K C_Desk (.type "object") = some true)
    (zu_Forest : PySem.W.nsIn K mainGlobals "Forest" = some (some (.ref C_Forest)))
    (zpg_Forest : PySem.W.plainGet K C_Forest Str.empty = true)
    (zhd_Forest : PySem.W.hasDictIn K C_Forest = true)
    (zpo_Forest : PySem.W.plainOver K C_Forest = true)
    (zsa_Forest : PySem.W.findIn K (.ref C_Forest) "__setattr__" = some (some (.builtin "object.__setattr__")))
    (zic_Forest : PySem.W.isClsIn K C_Forest = true)
    (zit_Forest : PySem.W.typeIn K (.ref C_Forest) = some (.type "type"))
    (zss_Forest : PySem.W.subIn K (.ref C_Forest) (.ref C_Forest) = some true)
    (zha_Forest : PySem.W.findIn K (.ref C_Forest) "__class__" = some (some (.builtin "object.__class__")))
    (zhm_Forest : PySem.W.mroIn K C_Forest (.type "object") = some true)
    (zu_Together : PySem.W.nsIn K mainGlobals "Together" = some (some (.ref C_Together)))
    (zpg_Together : PySem.W.plainGet K C_Together Str.empty = true)
    (zhd_Together : PySem.W.hasDictIn K C_Together = true)
    (zpo_Together : PySem.W.plainOver K C_Together = true)
    (zsa_Together : PySem.W.findIn K (.ref C_Together) "__setattr__" = some (some (.builtin "object.__setattr__")))
    (zss_Together : PySem.W.subIn K (.ref C_Together) (.ref C_Together) = some true)
    (zha_Together : PySem.W.findIn K (.ref C_Together) "__class__" = some (some (.builtin "object.__class__")))
    (zhm_Together : PySem.W.mroIn K C_Together (.type "object") = some true)
    (zu_Wrong : PySem.W.nsIn K mainGlobals "Wrong" = some (some (.ref C_Wrong)))
    (zpg_Wrong : PySem.W.plainGet K C_Wrong Str.empty = true)
    (zhd_Wrong : PySem.W.hasDictIn K C_Wrong = true)
    (zpo_Wrong : PySem.W.plainOver K C_Wrong = true)
    (zsa_Wrong : PySem.W.findIn K (.ref C_Wrong) "__setattr__" = some (some (.builtin "object.__setattr__")))
    (zic_Wrong : PySem.W.isClsIn K C_Wrong = true)
    (zit_Wrong : PySem.W.typeIn K (.ref C_Wrong) = some (.type "type"))
    (zss_Wrong : PySem.W.subIn K (.ref C_Wrong) (.ref C_Wrong) = some true)
    (zha_Wrong : PySem.W.findIn K (.ref C_Wrong) "__class__" = some (some (.builtin "object.__class__")))
    (zhm_Wrong : PySem.W.mroIn K C_Wrong (.type "object") = some true)
    (zhn : PySem.W.specialIn K (.builtin "object.__class__") "__get__" = some (some (.builtin "getset_descriptor.__get__")))
    (zht : PySem.W.takesIn K (.builtin "object.__class__") = some true)
    (a_BadLetter : PySem.W.nsIn K mainGlobals "BadLetter" = some (some (.ref C_BadLetter))) (x_BadLetter : PySem.W.excIn K C_BadLetter bmV "ValueError.__new__" = true) (k_BadLetter : PySem.W.keepIn K (.ref C_BadLetter) = true) (b_BadLetter : PySem.W.subIn K (.ref C_BadLetter) (.type "BaseException") = some true) (t_BadLetter : PySem.W.typeIn K (.ref C_BadLetter) = some (.type "type"))
    (a_BadLetters : PySem.W.nsIn K mainGlobals "BadLetters" = some (some (.ref C_BadLetters))) (x_BadLetters : PySem.W.excIn K C_BadLetters bmV "ValueError.__new__" = true) (k_BadLetters : PySem.W.keepIn K (.ref C_BadLetters) = true) (b_BadLetters : PySem.W.subIn K (.ref C_BadLetters) (.type "BaseException") = some true) (t_BadLetters : PySem.W.typeIn K (.ref C_BadLetters) = some (.type "type"))
    (a_BadName : PySem.W.nsIn K mainGlobals "BadName" = some (some (.ref C_BadName))) (x_BadName : PySem.W.excIn K C_BadName bmV "ValueError.__new__" = true) (k_BadName : PySem.W.keepIn K (.ref C_BadName) = true) (b_BadName : PySem.W.subIn K (.ref C_BadName) (.type "BaseException") = some true) (t_BadName : PySem.W.typeIn K (.ref C_BadName) = some (.type "type"))
    (a_BadRows : PySem.W.nsIn K mainGlobals "BadRows" = some (some (.ref C_BadRows))) (x_BadRows : PySem.W.excIn K C_BadRows bmV "ValueError.__new__" = true) (k_BadRows : PySem.W.keepIn K (.ref C_BadRows) = true) (b_BadRows : PySem.W.subIn K (.ref C_BadRows) (.type "BaseException") = some true) (t_BadRows : PySem.W.typeIn K (.ref C_BadRows) = some (.type "type"))
    (a_BadTitle : PySem.W.nsIn K mainGlobals "BadTitle" = some (some (.ref C_BadTitle))) (x_BadTitle : PySem.W.excIn K C_BadTitle bmV "ValueError.__new__" = true) (k_BadTitle : PySem.W.keepIn K (.ref C_BadTitle) = true) (b_BadTitle : PySem.W.subIn K (.ref C_BadTitle) (.type "BaseException") = some true) (t_BadTitle : PySem.W.typeIn K (.ref C_BadTitle) = some (.type "type"))
    (a_Known : PySem.W.nsIn K mainGlobals "Known" = some (some (.ref C_Known))) (x_Known : PySem.W.excIn K C_Known bmV "ValueError.__new__" = true) (k_Known : PySem.W.keepIn K (.ref C_Known) = true) (b_Known : PySem.W.subIn K (.ref C_Known) (.type "BaseException") = some true) (t_Known : PySem.W.typeIn K (.ref C_Known) = some (.type "type"))
    (a_TooMany : PySem.W.nsIn K mainGlobals "TooMany" = some (some (.ref C_TooMany))) (x_TooMany : PySem.W.excIn K C_TooMany bmV "ValueError.__new__" = true) (k_TooMany : PySem.W.keepIn K (.ref C_TooMany) = true) (b_TooMany : PySem.W.subIn K (.ref C_TooMany) (.type "BaseException") = some true) (t_TooMany : PySem.W.typeIn K (.ref C_TooMany) = some (.type "type"))
    (a_LONGEST_NAME : PySem.W.nsIn K mainGlobals "LONGEST_NAME" = some (some (.int 3 t_LONGEST_NAME)))
    (a_LONGEST_ROW : PySem.W.nsIn K mainGlobals "LONGEST_ROW" = some (some (.int 40 t_LONGEST_ROW)))
    (a_LONGEST_TITLE : PySem.W.nsIn K mainGlobals "LONGEST_TITLE" = some (some (.int 12 t_LONGEST_TITLE)))
    (a_MOST : PySem.W.nsIn K mainGlobals "MOST" = some (some (.int 9 t_MOST)))
    (a_MOST_ANSWERS : PySem.W.nsIn K mainGlobals "MOST_ANSWERS" = some (some (.int 4 t_MOST_ANSWERS)))
    (a_MOST_ROWS : PySem.W.nsIn K mainGlobals "MOST_ROWS" = some (some (.int 20 t_MOST_ROWS)))
    (a_SIGNS : PySem.W.nsIn K mainGlobals "SIGNS" = some (some (.str "abcdefghijklmnopqrstuvwxyz" t_SIGNS)))
    (z_abs : PySem.W.nsIn K mainGlobals "abs" = some none)
    (z_all : PySem.W.nsIn K mainGlobals "all" = some none)
    (z_any : PySem.W.nsIn K mainGlobals "any" = some none)
    (z_enumerate : PySem.W.nsIn K mainGlobals "enumerate" = some none)
    (z_isinstance : PySem.W.nsIn K mainGlobals "isinstance" = some none)
    (z_len : PySem.W.nsIn K mainGlobals "len" = some none)
    (z_list : PySem.W.nsIn K mainGlobals "list" = some none)
    (z_min : PySem.W.nsIn K mainGlobals "min" = some none)
    (z_range : PySem.W.nsIn K mainGlobals "range" = some none)
    (z_set : PySem.W.nsIn K mainGlobals "set" = some none)
    (z_sorted : PySem.W.nsIn K mainGlobals "sorted" = some none)
    (z_str : PySem.W.nsIn K mainGlobals "str" = some none)
    (z_sum : PySem.W.nsIn K mainGlobals "sum" = some none)
    (z_tuple : PySem.W.nsIn K mainGlobals "tuple" = some none)
    (z_zip : PySem.W.nsIn K mainGlobals "zip" = some none)
    (zk_Apart_Apart : PySem.W.subIn K (.ref C_Apart) (.ref C_Apart) = some true)
    (zk_Apart_Forest : PySem.W.subIn K (.ref C_Apart) (.ref C_Forest) = some false)
    (zk_Apart_Wrong : PySem.W.subIn K (.ref C_Apart) (.ref C_Wrong) = some false)
    (zk_Desk_Apart : PySem.W.subIn K (.ref C_Desk) (.ref C_Apart) = some false)
    (zk_Desk_Forest : PySem.W.subIn K (.ref C_Desk) (.ref C_Forest) = some false)
    (zk_Desk_Wrong : PySem.W.subIn K (.ref C_Desk) (.ref C_Wrong) = some false)
    (zk_Forest_Apart : PySem.W.subIn K (.ref C_Forest) (.ref C_Apart) = some false)
    (zk_Forest_Forest : PySem.W.subIn K (.ref C_Forest) (.ref C_Forest) = some true)
    (zk_Forest_Wrong : PySem.W.subIn K (.ref C_Forest) (.ref C_Wrong) = some false)
    (zk_Together_Apart : PySem.W.subIn K (.ref C_Together) (.ref C_Apart) = some false)
    (zk_Together_Forest : PySem.W.subIn K (.ref C_Together) (.ref C_Forest) = some false)
    (zk_Together_Wrong : PySem.W.subIn K (.ref C_Together) (.ref C_Wrong) = some false)
    (zk_Wrong_Apart : PySem.W.subIn K (.ref C_Wrong) (.ref C_Apart) = some false)
    (zk_Wrong_Forest : PySem.W.subIn K (.ref C_Wrong) (.ref C_Forest) = some false)
    (zk_Wrong_Wrong : PySem.W.subIn K (.ref C_Wrong) (.ref C_Wrong) = some true)
    (zn_lying_Desk : PySem.W.findIn K (.ref C_Desk) "lying" = some none)
    (zn_names_Apart : PySem.W.findIn K (.ref C_Apart) "names" = some none)
    (zn_path_Together : PySem.W.findIn K (.ref C_Together) "path" = some none)
    (zn_row_Wrong : PySem.W.findIn K (.ref C_Wrong) "row" = some none)
    (zn_ties_Forest : PySem.W.findIn K (.ref C_Forest) "ties" = some none)
    (ysb_BadTitle : PySem.W.subIn K (.ref C_BadTitle) (.type "BaseException") = some true)
    (ydi_BadTitle : PySem.W.hasDictIn K C_BadTitle = true)
    (yty_BadTitle : PySem.W.typeIn K (.ref C_BadTitle) = some (.type "type"))
    (ysu_BadTitle_BadTitle : PySem.W.subIn K (.ref C_BadTitle) (.ref C_BadTitle) = some true)
    (yic_BadTitle : PySem.W.isClsIn K C_BadTitle = true)
    (yga_BadTitle : PySem.W.findIn K (.ref C_BadTitle) "__getattribute__" = some (some (.builtin "BaseException.__getattribute__")))
    (ygt_BadTitle : PySem.W.findIn K (.ref C_BadTitle) "__getattr__" = some none)
    (yha_BadTitle : PySem.W.findIn K (.ref C_BadTitle) "__class__" = some (some (.builtin "object.__class__")))
    (yhm_BadTitle : PySem.W.mroIn K C_BadTitle (.type "object") = some true) : Txt K mg :=
  ⟨⟨C_Apart, PySem.W.mg_of X G zu_Apart⟩, ⟨C_Forest, PySem.W.mg_of X G zu_Forest⟩, ⟨C_Wrong, PySem.W.mg_of X G zu_Wrong⟩, ⟨_, PySem.W.mg_of X G a_BadLetter, x_BadLetter, k_BadLetter, b_BadLetter, t_BadLetter⟩, ⟨_, PySem.W.mg_of X G a_BadLetters, x_BadLetters, k_BadLetters, b_BadLetters, t_BadLetters⟩, ⟨_, PySem.W.mg_of X G a_BadName, x_BadName, k_BadName, b_BadName, t_BadName⟩, ⟨_, PySem.W.mg_of X G a_BadRows, x_BadRows, k_BadRows, b_BadRows, t_BadRows⟩, ⟨_, PySem.W.mg_of X G a_BadTitle, x_BadTitle, k_BadTitle, b_BadTitle, t_BadTitle⟩, ⟨_, PySem.W.mg_of X G a_Known, x_Known, k_Known, b_Known, t_Known⟩, ⟨_, PySem.W.mg_of X G a_TooMany, x_TooMany, k_TooMany, b_TooMany, t_TooMany⟩, ⟨_, PySem.W.mg_of X G a_LONGEST_NAME⟩, ⟨_, PySem.W.mg_of X G a_LONGEST_ROW⟩, ⟨_, PySem.W.mg_of X G a_LONGEST_TITLE⟩, ⟨_, PySem.W.mg_of X G a_MOST⟩, ⟨_, PySem.W.mg_of X G a_MOST_ANSWERS⟩, ⟨_, PySem.W.mg_of X G a_MOST_ROWS⟩, ⟨_, PySem.W.mg_of X G a_SIGNS⟩, PySem.W.mg_none_of X G z_abs, PySem.W.mg_none_of X G z_all, PySem.W.mg_none_of X G z_any, PySem.W.mg_none_of X G z_enumerate, PySem.W.mg_none_of X G z_isinstance, PySem.W.mg_none_of X G z_len, PySem.W.mg_none_of X G z_list, PySem.W.mg_none_of X G z_min, PySem.W.mg_none_of X G z_range, PySem.W.mg_none_of X G z_set, PySem.W.mg_none_of X G z_sorted, PySem.W.mg_none_of X G z_str, PySem.W.mg_none_of X G z_sum, PySem.W.mg_none_of X G z_tuple, PySem.W.mg_none_of X G z_zip, ⟨C_Apart, C_Apart, PySem.W.mg_of X G zu_Apart, PySem.W.mg_of X G zu_Apart, ⟨⟨zpg_Apart, zhd_Apart, zpo_Apart, zsa_Apart⟩, zha_Apart, zhn, zht, zhm_Apart⟩, kit_own zic_Apart zit_Apart zk_Apart_Apart zss_Apart⟩, ⟨C_Apart, C_Forest, PySem.W.mg_of X G zu_Apart, PySem.W.mg_of X G zu_Forest, ⟨⟨zpg_Apart, zhd_Apart, zpo_Apart, zsa_Apart⟩, zha_Apart, zhn, zht, zhm_Apart⟩, kit_own zic_Forest zit_Forest zk_Apart_Forest zss_Apart⟩, ⟨C_Apart, C_Wrong, PySem.W.mg_of X G zu_Apart, PySem.W.mg_of X G zu_Wrong, ⟨⟨zpg_Apart, zhd_Apart, zpo_Apart, zsa_Apart⟩, zha_Apart, zhn, zht, zhm_Apart⟩, kit_own zic_Wrong zit_Wrong zk_Apart_Wrong zss_Apart⟩, ⟨C_Desk, C_Apart, PySem.W.mg_of X G zu_Desk, PySem.W.mg_of X G zu_Apart, ⟨⟨zpg_Desk, zhd_Desk, zpo_Desk, zsa_Desk⟩, zha_Desk, zhn, zht, zhm_Desk⟩, kit_own zic_Apart zit_Apart zk_Desk_Apart zss_Desk⟩, ⟨C_Desk, C_Forest, PySem.W.mg_of X G zu_Desk, PySem.W.mg_of X G zu_Forest, ⟨⟨zpg_Desk, zhd_Desk, zpo_Desk, zsa_Desk⟩, zha_Desk, zhn, zht, zhm_Desk⟩, kit_own zic_Forest zit_Forest zk_Desk_Forest zss_Desk⟩, ⟨C_Desk, C_Wrong, PySem.W.mg_of X G zu_Desk, PySem.W.mg_of X G zu_Wrong, ⟨⟨zpg_Desk, zhd_Desk, zpo_Desk, zsa_Desk⟩, zha_Desk, zhn, zht, zhm_Desk⟩, kit_own zic_Wrong zit_Wrong zk_Desk_Wrong zss_Desk⟩, ⟨C_Forest, C_Apart, PySem.W.mg_of X G zu_Forest, PySem.W.mg_of X G zu_Apart, ⟨⟨zpg_Forest, zhd_Forest, zpo_Forest, zsa_Forest⟩, zha_Forest, zhn, zht, zhm_Forest⟩, kit_own zic_Apart zit_Apart zk_Forest_Apart zss_Forest⟩, ⟨C_Forest, C_Forest, PySem.W.mg_of X G zu_Forest, PySem.W.mg_of X G zu_Forest, ⟨⟨zpg_Forest, zhd_Forest, zpo_Forest, zsa_Forest⟩, zha_Forest, zhn, zht, zhm_Forest⟩, kit_own zic_Forest zit_Forest zk_Forest_Forest zss_Forest⟩, ⟨C_Forest, C_Wrong, PySem.W.mg_of X G zu_Forest, PySem.W.mg_of X G zu_Wrong, ⟨⟨zpg_Forest, zhd_Forest, zpo_Forest, zsa_Forest⟩, zha_Forest, zhn, zht, zhm_Forest⟩, kit_own zic_Wrong zit_Wrong zk_Forest_Wrong zss_Forest⟩, ⟨C_Together, C_Apart, PySem.W.mg_of X G zu_Together, PySem.W.mg_of X G zu_Apart, ⟨⟨zpg_Together, zhd_Together, zpo_Together, zsa_Together⟩, zha_Together, zhn, zht, zhm_Together⟩, kit_own zic_Apart zit_Apart zk_Together_Apart zss_Together⟩, ⟨C_Together, C_Forest, PySem.W.mg_of X G zu_Together, PySem.W.mg_of X G zu_Forest, ⟨⟨zpg_Together, zhd_Together, zpo_Together, zsa_Together⟩, zha_Together, zhn, zht, zhm_Together⟩, kit_own zic_Forest zit_Forest zk_Together_Forest zss_Together⟩, ⟨C_Together, C_Wrong, PySem.W.mg_of X G zu_Together, PySem.W.mg_of X G zu_Wrong, ⟨⟨zpg_Together, zhd_Together, zpo_Together, zsa_Together⟩, zha_Together, zhn, zht, zhm_Together⟩, kit_own zic_Wrong zit_Wrong zk_Together_Wrong zss_Together⟩, ⟨C_Wrong, C_Apart, PySem.W.mg_of X G zu_Wrong, PySem.W.mg_of X G zu_Apart, ⟨⟨zpg_Wrong, zhd_Wrong, zpo_Wrong, zsa_Wrong⟩, zha_Wrong, zhn, zht, zhm_Wrong⟩, kit_own zic_Apart zit_Apart zk_Wrong_Apart zss_Wrong⟩, ⟨C_Wrong, C_Forest, PySem.W.mg_of X G zu_Wrong, PySem.W.mg_of X G zu_Forest, ⟨⟨zpg_Wrong, zhd_Wrong, zpo_Wrong, zsa_Wrong⟩, zha_Wrong, zhn, zht, zhm_Wrong⟩, kit_own zic_Forest zit_Forest zk_Wrong_Forest zss_Wrong⟩, ⟨C_Wrong, C_Wrong, PySem.W.mg_of X G zu_Wrong, PySem.W.mg_of X G zu_Wrong, ⟨⟨zpg_Wrong, zhd_Wrong, zpo_Wrong, zsa_Wrong⟩, zha_Wrong, zhn, zht, zhm_Wrong⟩, kit_own zic_Wrong zit_Wrong zk_Wrong_Wrong zss_Wrong⟩, ⟨C_Desk, PySem.W.mg_of X G zu_Desk, ⟨zpg_Desk, zhd_Desk, zpo_Desk, zsa_Desk⟩, zn_lying_Desk⟩, ⟨C_Apart, PySem.W.mg_of X G zu_Apart, ⟨zpg_Apart, zhd_Apart, zpo_Apart, zsa_Apart⟩, zn_names_Apart⟩, ⟨C_Together, PySem.W.mg_of X G zu_Together, ⟨zpg_Together, zhd_Together, zpo_Together, zsa_Together⟩, zn_path_Together⟩, ⟨C_Wrong, PySem.W.mg_of X G zu_Wrong, ⟨zpg_Wrong, zhd_Wrong, zpo_Wrong, zsa_Wrong⟩, zn_row_Wrong⟩, ⟨C_Forest, PySem.W.mg_of X G zu_Forest, ⟨zpg_Forest, zhd_Forest, zpo_Forest, zsa_Forest⟩, zn_ties_Forest⟩, cat_mk (PySem.W.mg_of X G a_BadTitle) (PySem.W.mg_of X G a_BadTitle) (PySem.W.mg_of X G a_BadTitle) ysb_BadTitle ydi_BadTitle yty_BadTitle ysu_BadTitle_BadTitle ⟨yga_BadTitle, ygt_BadTitle, ysb_BadTitle, ydi_BadTitle, yha_BadTitle, zhn, zht, yhm_BadTitle⟩ yic_BadTitle yty_BadTitle ysu_BadTitle_BadTitle ysu_BadTitle_BadTitle⟩
theorem all_mk {l : PySem.W.OpenLaw} {w : World} {K : PySem.W.Frag} {h : Heap} {mg : Str → Option Value} {fa : Addr} (X : K.In h) (G : h.Ns mainGlobals mg) (hfa : mg "law" = some (.ref fa)) (T : Txt K mg)
    {C_Apart : Addr} (u_Apart : PySem.W.nsIn K mainGlobals "Apart" = some (some (.ref C_Apart))) (pg_Apart : PySem.W.plainGet K C_Apart Str.empty = true) (hd_Apart : PySem.W.hasDictIn K C_Apart = true) (po_Apart : PySem.W.plainOver K C_Apart = true) (sa_Apart : PySem.W.findIn K (.ref C_Apart) "__setattr__" = some (some (.builtin "object.__setattr__"))) (mk_Apart : PySem.W.makesIn K C_Apart = true) (kc_Apart : PySem.W.keepIn K (.ref C_Apart) = true)
    {C_Desk : Addr} (u_Desk : PySem.W.nsIn K mainGlobals "Desk" = some (some (.ref C_Desk))) (pg_Desk : PySem.W.plainGet K C_Desk Str.empty = true) (hd_Desk : PySem.W.hasDictIn K C_Desk = true) (po_Desk : PySem.W.plainOver K C_Desk = true) (sa_Desk : PySem.W.findIn K (.ref C_Desk) "__setattr__" = some (some (.builtin "object.__setattr__"))) (mk_Desk : PySem.W.makesIn K C_Desk = true) (kc_Desk : PySem.W.keepIn K (.ref C_Desk) = true)
    {C_Forest : Addr} (u_Forest : PySem.W.nsIn K mainGlobals "Forest" = some (some (.ref C_Forest))) (pg_Forest : PySem.W.plainGet K C_Forest Str.empty = true) (hd_Forest : PySem.W.hasDictIn K C_Forest = true) (po_Forest : PySem.W.plainOver K C_Forest = true) (sa_Forest : PySem.W.findIn K (.ref C_Forest) "__setattr__" = some (some (.builtin "object.__setattr__"))) (mk_Forest : PySem.W.makesIn K C_Forest = true) (kc_Forest : PySem.W.keepIn K (.ref C_Forest) = true)
    {C_Together : Addr} (u_Together : PySem.W.nsIn K mainGlobals "Together" = some (some (.ref C_Together))) (pg_Together : PySem.W.plainGet K C_Together Str.empty = true) (hd_Together : PySem.W.hasDictIn K C_Together = true) (po_Together : PySem.W.plainOver K C_Together = true) (sa_Together : PySem.W.findIn K (.ref C_Together) "__setattr__" = some (some (.builtin "object.__setattr__"))) (mk_Together : PySem.W.makesIn K C_Together = true) (kc_Together : PySem.W.keepIn K (.ref C_Together) = true)
    {C_Wrong : Addr} (u_Wrong : PySem.W.nsIn K mainGlobals "Wrong" = some (some (.ref C_Wrong))) (pg_Wrong : PySem.W.plainGet K C_Wrong Str.empty = true) (hd_Wrong : PySem.W.hasDictIn K C_Wrong = true) (po_Wrong : PySem.W.plainOver K C_Wrong = true) (sa_Wrong : PySem.W.findIn K (.ref C_Wrong) "__setattr__" = some (some (.builtin "object.__setattr__"))) (mk_Wrong : PySem.W.makesIn K C_Wrong = true) (kc_Wrong : PySem.W.keepIn K (.ref C_Wrong) = true)
    {f__wall : Addr} {od__wall an__wall : Option Addr} {sl__wall : Array (Option Value)} {oc__wall kV__wall dc__wall pm__wall cd__wall ct__wall : Value} (a__wall : PySem.W.nsIn K mainGlobals "_wall" = some (some (.ref f__wall))) (l__wall : K.lookup f__wall = some ⟨oc__wall, od__wall, .func (PySem.W.fnOf "_wall" "_wall" (defArgs s__wall) (defBody s__wall) (defScope s__wall) .none kV__wall dc__wall pm__wall an__wall cd__wall ct__wall), sl__wall⟩) (c__wall : PySem.W.codeIn K cd__wall "_wall" = true) (k__wall : PySem.W.keepIn K (.ref f__wall) = true)
    {f_is_name : Addr} {od_is_name an_is_name : Option Addr} {sl_is_name : Array (Option Value)} {oc_is_name kV_is_name dc_is_name pm_is_name cd_is_name ct_is_name : Value} (a_is_name : PySem.W.nsIn K mainGlobals "is_name" = some (some (.ref f_is_name))) (l_is_name : K.lookup f_is_name = some ⟨oc_is_name, od_is_name, .func (PySem.W.fnOf "is_name" "is_name" (defArgs s_is_name) (defBody s_is_name) (defScope s_is_name) .none kV_is_name dc_is_name pm_is_name an_is_name cd_is_name ct_is_name), sl_is_name⟩) (c_is_name : PySem.W.codeIn K cd_is_name "is_name" = true) (k_is_name : PySem.W.keepIn K (.ref f_is_name) = true)
    {f_is_title : Addr} {od_is_title an_is_title : Option Addr} {sl_is_title : Array (Option Value)} {oc_is_title kV_is_title dc_is_title pm_is_title cd_is_title ct_is_title : Value} (a_is_title : PySem.W.nsIn K mainGlobals "is_title" = some (some (.ref f_is_title))) (l_is_title : K.lookup f_is_title = some ⟨oc_is_title, od_is_title, .func (PySem.W.fnOf "is_title" "is_title" (defArgs s_is_title) (defBody s_is_title) (defScope s_is_title) .none kV_is_title dc_is_title pm_is_title an_is_title cd_is_title ct_is_title), sl_is_title⟩) (c_is_title : PySem.W.codeIn K cd_is_title "is_title" = true) (k_is_title : PySem.W.keepIn K (.ref f_is_title) = true)
    {f_is_letter : Addr} {od_is_letter an_is_letter : Option Addr} {sl_is_letter : Array (Option Value)} {oc_is_letter kV_is_letter dc_is_letter pm_is_letter cd_is_letter ct_is_letter : Value} (a_is_letter : PySem.W.nsIn K mainGlobals "is_letter" = some (some (.ref f_is_letter))) (l_is_letter : K.lookup f_is_letter = some ⟨oc_is_letter, od_is_letter, .func (PySem.W.fnOf "is_letter" "is_letter" (defArgs s_is_letter) (defBody s_is_letter) (defScope s_is_letter) .none kV_is_letter dc_is_letter pm_is_letter an_is_letter cd_is_letter ct_is_letter), sl_is_letter⟩) (c_is_letter : PySem.W.codeIn K cd_is_letter "is_letter" = true) (k_is_letter : PySem.W.keepIn K (.ref f_is_letter) = true)
    {f_check_letter : Addr} {od_check_letter an_check_letter : Option Addr} {sl_check_letter : Array (Option Value)} {oc_check_letter kV_check_letter dc_check_letter pm_check_letter cd_check_letter ct_check_letter : Value} (a_check_letter : PySem.W.nsIn K mainGlobals "check_letter" = some (some (.ref f_check_letter))) (l_check_letter : K.lookup f_check_letter = some ⟨oc_check_letter, od_check_letter, .func (PySem.W.fnOf "check_letter" "check_letter" (defArgs s_check_letter) (defBody s_check_letter) (defScope s_check_letter) .none kV_check_letter dc_check_letter pm_check_letter an_check_letter cd_check_letter ct_check_letter), sl_check_letter⟩) (c_check_letter : PySem.W.codeIn K cd_check_letter "check_letter" = true) (k_check_letter : PySem.W.keepIn K (.ref f_check_letter) = true)
    {f_check_letters : Addr} {od_check_letters an_check_letters : Option Addr} {sl_check_letters : Array (Option Value)} {oc_check_letters kV_check_letters dc_check_letters pm_check_letters cd_check_letters ct_check_letters : Value} (a_check_letters : PySem.W.nsIn K mainGlobals "check_letters" = some (some (.ref f_check_letters))) (l_check_letters : K.lookup f_check_letters = some ⟨oc_check_letters, od_check_letters, .func (PySem.W.fnOf "check_letters" "check_letters" (defArgs s_check_letters) (defBody s_check_letters) (defScope s_check_letters) .none kV_check_letters dc_check_letters pm_check_letters an_check_letters cd_check_letters ct_check_letters), sl_check_letters⟩) (c_check_letters : PySem.W.codeIn K cd_check_letters "check_letters" = true) (k_check_letters : PySem.W.keepIn K (.ref f_check_letters) = true)
    {f_bare_of : Addr} {od_bare_of an_bare_of : Option Addr} {sl_bare_of : Array (Option Value)} {oc_bare_of kV_bare_of dc_bare_of pm_bare_of cd_bare_of ct_bare_of : Value} (a_bare_of : PySem.W.nsIn K mainGlobals "bare_of" = some (some (.ref f_bare_of))) (l_bare_of : K.lookup f_bare_of = some ⟨oc_bare_of, od_bare_of, .func (PySem.W.fnOf "bare_of" "bare_of" (defArgs s_bare_of) (defBody s_bare_of) (defScope s_bare_of) .none kV_bare_of dc_bare_of pm_bare_of an_bare_of cd_bare_of ct_bare_of), sl_bare_of⟩) (c_bare_of : PySem.W.codeIn K cd_bare_of "bare_of" = true) (k_bare_of : PySem.W.keepIn K (.ref f_bare_of) = true)
    {f_bare : Addr} {od_bare an_bare : Option Addr} {sl_bare : Array (Option Value)} {oc_bare kV_bare dc_bare pm_bare cd_bare ct_bare : Value} (a_bare : PySem.W.nsIn K mainGlobals "bare" = some (some (.ref f_bare))) (l_bare : K.lookup f_bare = some ⟨oc_bare, od_bare, .func (PySem.W.fnOf "bare" "bare" (defArgs s_bare) (defBody s_bare) (defScope s_bare) .none kV_bare dc_bare pm_bare an_bare cd_bare ct_bare), sl_bare⟩) (c_bare : PySem.W.codeIn K cd_bare "bare" = true) (k_bare : PySem.W.keepIn K (.ref f_bare) = true)
    {f_copied : Addr} {od_copied an_copied : Option Addr} {sl_copied : Array (Option Value)} {oc_copied kV_copied dc_copied pm_copied cd_copied ct_copied : Value} (a_copied : PySem.W.nsIn K mainGlobals "copied" = some (some (.ref f_copied))) (l_copied : K.lookup f_copied = some ⟨oc_copied, od_copied, .func (PySem.W.fnOf "copied" "copied" (defArgs s_copied) (defBody s_copied) (defScope s_copied) .none kV_copied dc_copied pm_copied an_copied cd_copied ct_copied), sl_copied⟩) (c_copied : PySem.W.codeIn K cd_copied "copied" = true) (k_copied : PySem.W.keepIn K (.ref f_copied) = true)
    {f_names_of : Addr} {od_names_of an_names_of : Option Addr} {sl_names_of : Array (Option Value)} {oc_names_of kV_names_of dc_names_of pm_names_of cd_names_of ct_names_of : Value} (a_names_of : PySem.W.nsIn K mainGlobals "names_of" = some (some (.ref f_names_of))) (l_names_of : K.lookup f_names_of = some ⟨oc_names_of, od_names_of, .func (PySem.W.fnOf "names_of" "names_of" (defArgs s_names_of) (defBody s_names_of) (defScope s_names_of) .none kV_names_of dc_names_of pm_names_of an_names_of cd_names_of ct_names_of), sl_names_of⟩) (c_names_of : PySem.W.codeIn K cd_names_of "names_of" = true) (k_names_of : PySem.W.keepIn K (.ref f_names_of) = true)
    {f_told_parent : Addr} {od_told_parent an_told_parent : Option Addr} {sl_told_parent : Array (Option Value)} {oc_told_parent kV_told_parent dc_told_parent pm_told_parent cd_told_parent ct_told_parent : Value} (a_told_parent : PySem.W.nsIn K mainGlobals "told_parent" = some (some (.ref f_told_parent))) (l_told_parent : K.lookup f_told_parent = some ⟨oc_told_parent, od_told_parent, .func (PySem.W.fnOf "told_parent" "told_parent" (defArgs s_told_parent) (defBody s_told_parent) (defScope s_told_parent) .none kV_told_parent dc_told_parent pm_told_parent an_told_parent cd_told_parent ct_told_parent), sl_told_parent⟩) (c_told_parent : PySem.W.codeIn K cd_told_parent "told_parent" = true) (k_told_parent : PySem.W.keepIn K (.ref f_told_parent) = true)
    {f_wanted_of : Addr} {od_wanted_of an_wanted_of : Option Addr} {sl_wanted_of : Array (Option Value)} {oc_wanted_of kV_wanted_of dc_wanted_of pm_wanted_of cd_wanted_of ct_wanted_of : Value} (a_wanted_of : PySem.W.nsIn K mainGlobals "wanted_of" = some (some (.ref f_wanted_of))) (l_wanted_of : K.lookup f_wanted_of = some ⟨oc_wanted_of, od_wanted_of, .func (PySem.W.fnOf "wanted_of" "wanted_of" (defArgs s_wanted_of) (defBody s_wanted_of) (defScope s_wanted_of) .none kV_wanted_of dc_wanted_of pm_wanted_of an_wanted_of cd_wanted_of ct_wanted_of), sl_wanted_of⟩) (c_wanted_of : PySem.W.codeIn K cd_wanted_of "wanted_of" = true) (k_wanted_of : PySem.W.keepIn K (.ref f_wanted_of) = true)
    {f_ring_of : Addr} {od_ring_of an_ring_of : Option Addr} {sl_ring_of : Array (Option Value)} {oc_ring_of kV_ring_of dc_ring_of pm_ring_of cd_ring_of ct_ring_of : Value} (a_ring_of : PySem.W.nsIn K mainGlobals "ring_of" = some (some (.ref f_ring_of))) (l_ring_of : K.lookup f_ring_of = some ⟨oc_ring_of, od_ring_of, .func (PySem.W.fnOf "ring_of" "ring_of" (defArgs s_ring_of) (defBody s_ring_of) (defScope s_ring_of) .none kV_ring_of dc_ring_of pm_ring_of an_ring_of cd_ring_of ct_ring_of), sl_ring_of⟩) (c_ring_of : PySem.W.codeIn K cd_ring_of "ring_of" = true) (k_ring_of : PySem.W.keepIn K (.ref f_ring_of) = true)
    {f_parents_of : Addr} {od_parents_of an_parents_of : Option Addr} {sl_parents_of : Array (Option Value)} {oc_parents_of kV_parents_of dc_parents_of pm_parents_of cd_parents_of ct_parents_of : Value} (a_parents_of : PySem.W.nsIn K mainGlobals "parents_of" = some (some (.ref f_parents_of))) (l_parents_of : K.lookup f_parents_of = some ⟨oc_parents_of, od_parents_of, .func (PySem.W.fnOf "parents_of" "parents_of" (defArgs s_parents_of) (defBody s_parents_of) (defScope s_parents_of) .none kV_parents_of dc_parents_of pm_parents_of an_parents_of cd_parents_of ct_parents_of), sl_parents_of⟩) (c_parents_of : PySem.W.codeIn K cd_parents_of "parents_of" = true) (k_parents_of : PySem.W.keepIn K (.ref f_parents_of) = true)
    {f_parents : Addr} {od_parents an_parents : Option Addr} {sl_parents : Array (Option Value)} {oc_parents kV_parents dc_parents pm_parents cd_parents ct_parents : Value} (a_parents : PySem.W.nsIn K mainGlobals "parents" = some (some (.ref f_parents))) (l_parents : K.lookup f_parents = some ⟨oc_parents, od_parents, .func (PySem.W.fnOf "parents" "parents" (defArgs s_parents) (defBody s_parents) (defScope s_parents) .none kV_parents dc_parents pm_parents an_parents cd_parents ct_parents), sl_parents⟩) (c_parents : PySem.W.codeIn K cd_parents "parents" = true) (k_parents : PySem.W.keepIn K (.ref f_parents) = true)
    {f_children_of : Addr} {od_children_of an_children_of : Option Addr} {sl_children_of : Array (Option Value)} {oc_children_of kV_children_of dc_children_of pm_children_of cd_children_of ct_children_of : Value} (a_children_of : PySem.W.nsIn K mainGlobals "children_of" = some (some (.ref f_children_of))) (l_children_of : K.lookup f_children_of = some ⟨oc_children_of, od_children_of, .func (PySem.W.fnOf "children_of" "children_of" (defArgs s_children_of) (defBody s_children_of) (defScope s_children_of) .none kV_children_of dc_children_of pm_children_of an_children_of cd_children_of ct_children_of), sl_children_of⟩) (c_children_of : PySem.W.codeIn K cd_children_of "children_of" = true) (k_children_of : PySem.W.keepIn K (.ref f_children_of) = true)
    {f_line_of : Addr} {od_line_of an_line_of : Option Addr} {sl_line_of : Array (Option Value)} {oc_line_of kV_line_of dc_line_of pm_line_of cd_line_of ct_line_of : Value} (a_line_of : PySem.W.nsIn K mainGlobals "line_of" = some (some (.ref f_line_of))) (l_line_of : K.lookup f_line_of = some ⟨oc_line_of, od_line_of, .func (PySem.W.fnOf "line_of" "line_of" (defArgs s_line_of) (defBody s_line_of) (defScope s_line_of) .none kV_line_of dc_line_of pm_line_of an_line_of cd_line_of ct_line_of), sl_line_of⟩) (c_line_of : PySem.W.codeIn K cd_line_of "line_of" = true) (k_line_of : PySem.W.keepIn K (.ref f_line_of) = true)
    {f_split_of : Addr} {od_split_of an_split_of : Option Addr} {sl_split_of : Array (Option Value)} {oc_split_of kV_split_of dc_split_of pm_split_of cd_split_of ct_split_of : Value} (a_split_of : PySem.W.nsIn K mainGlobals "split_of" = some (some (.ref f_split_of))) (l_split_of : K.lookup f_split_of = some ⟨oc_split_of, od_split_of, .func (PySem.W.fnOf "split_of" "split_of" (defArgs s_split_of) (defBody s_split_of) (defScope s_split_of) .none kV_split_of dc_split_of pm_split_of an_split_of cd_split_of ct_split_of), sl_split_of⟩) (c_split_of : PySem.W.codeIn K cd_split_of "split_of" = true) (k_split_of : PySem.W.keepIn K (.ref f_split_of) = true)
    {f_tied_of : Addr} {od_tied_of an_tied_of : Option Addr} {sl_tied_of : Array (Option Value)} {oc_tied_of kV_tied_of dc_tied_of pm_tied_of cd_tied_of ct_tied_of : Value} (a_tied_of : PySem.W.nsIn K mainGlobals "tied_of" = some (some (.ref f_tied_of))) (l_tied_of : K.lookup f_tied_of = some ⟨oc_tied_of, od_tied_of, .func (PySem.W.fnOf "tied_of" "tied_of" (defArgs s_tied_of) (defBody s_tied_of) (defScope s_tied_of) .none kV_tied_of dc_tied_of pm_tied_of an_tied_of cd_tied_of ct_tied_of), sl_tied_of⟩) (c_tied_of : PySem.W.codeIn K cd_tied_of "tied_of" = true) (k_tied_of : PySem.W.keepIn K (.ref f_tied_of) = true)
    {f_Together___init__ : Addr} {od_Together___init__ an_Together___init__ : Option Addr} {sl_Together___init__ : Array (Option Value)} {oc_Together___init__ kV_Together___init__ dc_Together___init__ pm_Together___init__ cd_Together___init__ ct_Together___init__ : Value} (a_Together___init__ : PySem.W.findIn K (.ref C_Together) "__init__" = some (some (.ref f_Together___init__))) (fn_Together___init__ : PySem.W.isFn K (.ref f_Together___init__) = true) (l_Together___init__ : K.lookup f_Together___init__ = some ⟨oc_Together___init__, od_Together___init__, .func (PySem.W.fnOf "__init__" "Together.__init__" (defArgs s_Together___init__) (defBody s_Together___init__) (defScope s_Together___init__) .none kV_Together___init__ dc_Together___init__ pm_Together___init__ an_Together___init__ cd_Together___init__ ct_Together___init__), sl_Together___init__⟩) (c_Together___init__ : PySem.W.codeIn K cd_Together___init__ "Together.__init__" = true) (k_Together___init__ : PySem.W.keepIn K (.ref f_Together___init__) = true)
    {f_Together_shows : Addr} {od_Together_shows an_Together_shows : Option Addr} {sl_Together_shows : Array (Option Value)} {oc_Together_shows kV_Together_shows dc_Together_shows pm_Together_shows cd_Together_shows ct_Together_shows : Value} (a_Together_shows : PySem.W.findIn K (.ref C_Together) "shows" = some (some (.ref f_Together_shows))) (fn_Together_shows : PySem.W.isFn K (.ref f_Together_shows) = true) (l_Together_shows : K.lookup f_Together_shows = some ⟨oc_Together_shows, od_Together_shows, .func (PySem.W.fnOf "shows" "Together.shows" (defArgs s_Together_shows) (defBody s_Together_shows) (defScope s_Together_shows) .none kV_Together_shows dc_Together_shows pm_Together_shows an_Together_shows cd_Together_shows ct_Together_shows), sl_Together_shows⟩) (c_Together_shows : PySem.W.codeIn K cd_Together_shows "Together.shows" = true) (k_Together_shows : PySem.W.keepIn K (.ref f_Together_shows) = true)
    {f_Apart___init__ : Addr} {od_Apart___init__ an_Apart___init__ : Option Addr} {sl_Apart___init__ : Array (Option Value)} {oc_Apart___init__ kV_Apart___init__ dc_Apart___init__ pm_Apart___init__ cd_Apart___init__ ct_Apart___init__ : Value} (a_Apart___init__ : PySem.W.findIn K (.ref C_Apart) "__init__" = some (some (.ref f_Apart___init__))) (fn_Apart___init__ : PySem.W.isFn K (.ref f_Apart___init__) = true) (l_Apart___init__ : K.lookup f_Apart___init__ = some ⟨oc_Apart___init__, od_Apart___init__, .func (PySem.W.fnOf "__init__" "Apart.__init__" (defArgs s_Apart___init__) (defBody s_Apart___init__) (defScope s_Apart___init__) .none kV_Apart___init__ dc_Apart___init__ pm_Apart___init__ an_Apart___init__ cd_Apart___init__ ct_Apart___init__), sl_Apart___init__⟩) (c_Apart___init__ : PySem.W.codeIn K cd_Apart___init__ "Apart.__init__" = true) (k_Apart___init__ : PySem.W.keepIn K (.ref f_Apart___init__) = true)
    {f_Apart_shows : Addr} {od_Apart_shows an_Apart_shows : Option Addr} {sl_Apart_shows : Array (Option Value)} {oc_Apart_shows kV_Apart_shows dc_Apart_shows pm_Apart_shows cd_Apart_shows ct_Apart_shows : Value} (a_Apart_shows : PySem.W.findIn K (.ref C_Apart) "shows" = some (some (.ref f_Apart_shows))) (fn_Apart_shows : PySem.W.isFn K (.ref f_Apart_shows) = true) (l_Apart_shows : K.lookup f_Apart_shows = some ⟨oc_Apart_shows, od_Apart_shows, .func (PySem.W.fnOf "shows" "Apart.shows" (defArgs s_Apart_shows) (defBody s_Apart_shows) (defScope s_Apart_shows) .none kV_Apart_shows dc_Apart_shows pm_Apart_shows an_Apart_shows cd_Apart_shows ct_Apart_shows), sl_Apart_shows⟩) (c_Apart_shows : PySem.W.codeIn K cd_Apart_shows "Apart.shows" = true) (k_Apart_shows : PySem.W.keepIn K (.ref f_Apart_shows) = true)
    {f_row_of : Addr} {od_row_of an_row_of : Option Addr} {sl_row_of : Array (Option Value)} {oc_row_of kV_row_of dc_row_of pm_row_of cd_row_of ct_row_of : Value} (a_row_of : PySem.W.nsIn K mainGlobals "row_of" = some (some (.ref f_row_of))) (l_row_of : K.lookup f_row_of = some ⟨oc_row_of, od_row_of, .func (PySem.W.fnOf "row_of" "row_of" (defArgs s_row_of) (defBody s_row_of) (defScope s_row_of) .none kV_row_of dc_row_of pm_row_of an_row_of cd_row_of ct_row_of), sl_row_of⟩) (c_row_of : PySem.W.codeIn K cd_row_of "row_of" = true) (k_row_of : PySem.W.keepIn K (.ref f_row_of) = true)
    {f_read_of : Addr} {od_read_of an_read_of : Option Addr} {sl_read_of : Array (Option Value)} {oc_read_of kV_read_of dc_read_of pm_read_of cd_read_of ct_read_of : Value} (a_read_of : PySem.W.nsIn K mainGlobals "read_of" = some (some (.ref f_read_of))) (l_read_of : K.lookup f_read_of = some ⟨oc_read_of, od_read_of, .func (PySem.W.fnOf "read_of" "read_of" (defArgs s_read_of) (defBody s_read_of) (defScope s_read_of) .none kV_read_of dc_read_of pm_read_of an_read_of cd_read_of ct_read_of), sl_read_of⟩) (c_read_of : PySem.W.codeIn K cd_read_of "read_of" = true) (k_read_of : PySem.W.keepIn K (.ref f_read_of) = true)
    {f_Forest___init__ : Addr} {od_Forest___init__ an_Forest___init__ : Option Addr} {sl_Forest___init__ : Array (Option Value)} {oc_Forest___init__ kV_Forest___init__ dc_Forest___init__ pm_Forest___init__ cd_Forest___init__ ct_Forest___init__ : Value} (a_Forest___init__ : PySem.W.findIn K (.ref C_Forest) "__init__" = some (some (.ref f_Forest___init__))) (fn_Forest___init__ : PySem.W.isFn K (.ref f_Forest___init__) = true) (l_Forest___init__ : K.lookup f_Forest___init__ = some ⟨oc_Forest___init__, od_Forest___init__, .func (PySem.W.fnOf "__init__" "Forest.__init__" (defArgs s_Forest___init__) (defBody s_Forest___init__) (defScope s_Forest___init__) .none kV_Forest___init__ dc_Forest___init__ pm_Forest___init__ an_Forest___init__ cd_Forest___init__ ct_Forest___init__), sl_Forest___init__⟩) (c_Forest___init__ : PySem.W.codeIn K cd_Forest___init__ "Forest.__init__" = true) (k_Forest___init__ : PySem.W.keepIn K (.ref f_Forest___init__) = true)
    {f_Forest_shows : Addr} {od_Forest_shows an_Forest_shows : Option Addr} {sl_Forest_shows : Array (Option Value)} {oc_Forest_shows kV_Forest_shows dc_Forest_shows pm_Forest_shows cd_Forest_shows ct_Forest_shows : Value} (a_Forest_shows : PySem.W.findIn K (.ref C_Forest) "shows" = some (some (.ref f_Forest_shows))) (fn_Forest_shows : PySem.W.isFn K (.ref f_Forest_shows) = true) (l_Forest_shows : K.lookup f_Forest_shows = some ⟨oc_Forest_shows, od_Forest_shows, .func (PySem.W.fnOf "shows" "Forest.shows" (defArgs s_Forest_shows) (defBody s_Forest_shows) (defScope s_Forest_shows) .none kV_Forest_shows dc_Forest_shows pm_Forest_shows an_Forest_shows cd_Forest_shows ct_Forest_shows), sl_Forest_shows⟩) (c_Forest_shows : PySem.W.codeIn K cd_Forest_shows "Forest.shows" = true) (k_Forest_shows : PySem.W.keepIn K (.ref f_Forest_shows) = true)
    {f_Wrong___init__ : Addr} {od_Wrong___init__ an_Wrong___init__ : Option Addr} {sl_Wrong___init__ : Array (Option Value)} {oc_Wrong___init__ kV_Wrong___init__ dc_Wrong___init__ pm_Wrong___init__ cd_Wrong___init__ ct_Wrong___init__ : Value} (a_Wrong___init__ : PySem.W.findIn K (.ref C_Wrong) "__init__" = some (some (.ref f_Wrong___init__))) (fn_Wrong___init__ : PySem.W.isFn K (.ref f_Wrong___init__) = true) (l_Wrong___init__ : K.lookup f_Wrong___init__ = some ⟨oc_Wrong___init__, od_Wrong___init__, .func (PySem.W.fnOf "__init__" "Wrong.__init__" (defArgs s_Wrong___init__) (defBody s_Wrong___init__) (defScope s_Wrong___init__) .none kV_Wrong___init__ dc_Wrong___init__ pm_Wrong___init__ an_Wrong___init__ cd_Wrong___init__ ct_Wrong___init__), sl_Wrong___init__⟩) (c_Wrong___init__ : PySem.W.codeIn K cd_Wrong___init__ "Wrong.__init__" = true) (k_Wrong___init__ : PySem.W.keepIn K (.ref f_Wrong___init__) = true)
    {f_Wrong_shows : Addr} {od_Wrong_shows an_Wrong_shows : Option Addr} {sl_Wrong_shows : Array (Option Value)} {oc_Wrong_shows kV_Wrong_shows dc_Wrong_shows pm_Wrong_shows cd_Wrong_shows ct_Wrong_shows : Value} (a_Wrong_shows : PySem.W.findIn K (.ref C_Wrong) "shows" = some (some (.ref f_Wrong_shows))) (fn_Wrong_shows : PySem.W.isFn K (.ref f_Wrong_shows) = true) (l_Wrong_shows : K.lookup f_Wrong_shows = some ⟨oc_Wrong_shows, od_Wrong_shows, .func (PySem.W.fnOf "shows" "Wrong.shows" (defArgs s_Wrong_shows) (defBody s_Wrong_shows) (defScope s_Wrong_shows) .none kV_Wrong_shows dc_Wrong_shows pm_Wrong_shows an_Wrong_shows cd_Wrong_shows ct_Wrong_shows), sl_Wrong_shows⟩) (c_Wrong_shows : PySem.W.codeIn K cd_Wrong_shows "Wrong.shows" = true) (k_Wrong_shows : PySem.W.keepIn K (.ref f_Wrong_shows) = true)
    {f_has_letter : Addr} {od_has_letter an_has_letter : Option Addr} {sl_has_letter : Array (Option Value)} {oc_has_letter kV_has_letter dc_has_letter pm_has_letter cd_has_letter ct_has_letter : Value} (a_has_letter : PySem.W.nsIn K mainGlobals "has_letter" = some (some (.ref f_has_letter))) (l_has_letter : K.lookup f_has_letter = some ⟨oc_has_letter, od_has_letter, .func (PySem.W.fnOf "has_letter" "has_letter" (defArgs s_has_letter) (defBody s_has_letter) (defScope s_has_letter) .none kV_has_letter dc_has_letter pm_has_letter an_has_letter cd_has_letter ct_has_letter), sl_has_letter⟩) (c_has_letter : PySem.W.codeIn K cd_has_letter "has_letter" = true) (k_has_letter : PySem.W.keepIn K (.ref f_has_letter) = true)
    {f_kept_children : Addr} {od_kept_children an_kept_children : Option Addr} {sl_kept_children : Array (Option Value)} {oc_kept_children kV_kept_children dc_kept_children pm_kept_children cd_kept_children ct_kept_children : Value} (a_kept_children : PySem.W.nsIn K mainGlobals "kept_children" = some (some (.ref f_kept_children))) (l_kept_children : K.lookup f_kept_children = some ⟨oc_kept_children, od_kept_children, .func (PySem.W.fnOf "kept_children" "kept_children" (defArgs s_kept_children) (defBody s_kept_children) (defScope s_kept_children) .none kV_kept_children dc_kept_children pm_kept_children an_kept_children cd_kept_children ct_kept_children), sl_kept_children⟩) (c_kept_children : PySem.W.codeIn K cd_kept_children "kept_children" = true) (k_kept_children : PySem.W.keepIn K (.ref f_kept_children) = true)
    {f_rows_below : Addr} {od_rows_below an_rows_below : Option Addr} {sl_rows_below : Array (Option Value)} {oc_rows_below kV_rows_below dc_rows_below pm_rows_below cd_rows_below ct_rows_below : Value} (a_rows_below : PySem.W.nsIn K mainGlobals "rows_below" = some (some (.ref f_rows_below))) (l_rows_below : K.lookup f_rows_below = some ⟨oc_rows_below, od_rows_below, .func (PySem.W.fnOf "rows_below" "rows_below" (defArgs s_rows_below) (defBody s_rows_below) (defScope s_rows_below) .none kV_rows_below dc_rows_below pm_rows_below an_rows_below cd_rows_below ct_rows_below), sl_rows_below⟩) (c_rows_below : PySem.W.codeIn K cd_rows_below "rows_below" = true) (k_rows_below : PySem.W.keepIn K (.ref f_rows_below) = true)
    {f_first_rows : Addr} {od_first_rows an_first_rows : Option Addr} {sl_first_rows : Array (Option Value)} {oc_first_rows kV_first_rows dc_first_rows pm_first_rows cd_first_rows ct_first_rows : Value} (a_first_rows : PySem.W.nsIn K mainGlobals "first_rows" = some (some (.ref f_first_rows))) (l_first_rows : K.lookup f_first_rows = some ⟨oc_first_rows, od_first_rows, .func (PySem.W.fnOf "first_rows" "first_rows" (defArgs s_first_rows) (defBody s_first_rows) (defScope s_first_rows) .none kV_first_rows dc_first_rows pm_first_rows an_first_rows cd_first_rows ct_first_rows), sl_first_rows⟩) (c_first_rows : PySem.W.codeIn K cd_first_rows "first_rows" = true) (k_first_rows : PySem.W.keepIn K (.ref f_first_rows) = true)
    {f_drawn : Addr} {od_drawn an_drawn : Option Addr} {sl_drawn : Array (Option Value)} {oc_drawn kV_drawn dc_drawn pm_drawn cd_drawn ct_drawn : Value} (a_drawn : PySem.W.nsIn K mainGlobals "drawn" = some (some (.ref f_drawn))) (l_drawn : K.lookup f_drawn = some ⟨oc_drawn, od_drawn, .func (PySem.W.fnOf "drawn" "drawn" (defArgs s_drawn) (defBody s_drawn) (defScope s_drawn) .none kV_drawn dc_drawn pm_drawn an_drawn cd_drawn ct_drawn), sl_drawn⟩) (c_drawn : PySem.W.codeIn K cd_drawn "drawn" = true) (k_drawn : PySem.W.keepIn K (.ref f_drawn) = true)
    (al_drawn_drawn : PySem.W.nsIn K mainGlobals "drawn_drawn" = some (some (.ref f_drawn)))
    {f_read : Addr} {od_read an_read : Option Addr} {sl_read : Array (Option Value)} {oc_read kV_read dc_read pm_read cd_read ct_read : Value} (a_read : PySem.W.nsIn K mainGlobals "read" = some (some (.ref f_read))) (l_read : K.lookup f_read = some ⟨oc_read, od_read, .func (PySem.W.fnOf "read" "read" (defArgs s_read) (defBody s_read) (defScope s_read) .none kV_read dc_read pm_read an_read cd_read ct_read), sl_read⟩) (c_read : PySem.W.codeIn K cd_read "read" = true) (k_read : PySem.W.keepIn K (.ref f_read) = true)
    {f_changes_of : Addr} {od_changes_of an_changes_of : Option Addr} {sl_changes_of : Array (Option Value)} {oc_changes_of kV_changes_of dc_changes_of pm_changes_of cd_changes_of ct_changes_of : Value} (a_changes_of : PySem.W.nsIn K mainGlobals "changes_of" = some (some (.ref f_changes_of))) (l_changes_of : K.lookup f_changes_of = some ⟨oc_changes_of, od_changes_of, .func (PySem.W.fnOf "changes_of" "changes_of" (defArgs s_changes_of) (defBody s_changes_of) (defScope s_changes_of) .none kV_changes_of dc_changes_of pm_changes_of an_changes_of cd_changes_of ct_changes_of), sl_changes_of⟩) (c_changes_of : PySem.W.codeIn K cd_changes_of "changes_of" = true) (k_changes_of : PySem.W.keepIn K (.ref f_changes_of) = true)
    {f_Desk___init__ : Addr} {od_Desk___init__ an_Desk___init__ : Option Addr} {sl_Desk___init__ : Array (Option Value)} {oc_Desk___init__ kV_Desk___init__ dc_Desk___init__ pm_Desk___init__ cd_Desk___init__ ct_Desk___init__ : Value} (a_Desk___init__ : PySem.W.findIn K (.ref C_Desk) "__init__" = some (some (.ref f_Desk___init__))) (fn_Desk___init__ : PySem.W.isFn K (.ref f_Desk___init__) = true) (l_Desk___init__ : K.lookup f_Desk___init__ = some ⟨oc_Desk___init__, od_Desk___init__, .func (PySem.W.fnOf "__init__" "Desk.__init__" (defArgs s_Desk___init__) (defBody s_Desk___init__) (defScope s_Desk___init__) .none kV_Desk___init__ dc_Desk___init__ pm_Desk___init__ an_Desk___init__ cd_Desk___init__ ct_Desk___init__), sl_Desk___init__⟩) (c_Desk___init__ : PySem.W.codeIn K cd_Desk___init__ "Desk.__init__" = true) (k_Desk___init__ : PySem.W.keepIn K (.ref f_Desk___init__) = true)
    {f_Desk_come : Addr} {od_Desk_come an_Desk_come : Option Addr} {sl_Desk_come : Array (Option Value)} {oc_Desk_come kV_Desk_come dc_Desk_come pm_Desk_come cd_Desk_come ct_Desk_come : Value} (a_Desk_come : PySem.W.findIn K (.ref C_Desk) "come" = some (some (.ref f_Desk_come))) (fn_Desk_come : PySem.W.isFn K (.ref f_Desk_come) = true) (l_Desk_come : K.lookup f_Desk_come = some ⟨oc_Desk_come, od_Desk_come, .func (PySem.W.fnOf "come" "Desk.come" (defArgs s_Desk_come) (defBody s_Desk_come) (defScope s_Desk_come) .none kV_Desk_come dc_Desk_come pm_Desk_come an_Desk_come cd_Desk_come ct_Desk_come), sl_Desk_come⟩) (c_Desk_come : PySem.W.codeIn K cd_Desk_come "Desk.come" = true) (k_Desk_come : PySem.W.keepIn K (.ref f_Desk_come) = true)
    {f_Desk_go : Addr} {od_Desk_go an_Desk_go : Option Addr} {sl_Desk_go : Array (Option Value)} {oc_Desk_go kV_Desk_go dc_Desk_go pm_Desk_go cd_Desk_go ct_Desk_go : Value} (a_Desk_go : PySem.W.findIn K (.ref C_Desk) "go" = some (some (.ref f_Desk_go))) (fn_Desk_go : PySem.W.isFn K (.ref f_Desk_go) = true) (l_Desk_go : K.lookup f_Desk_go = some ⟨oc_Desk_go, od_Desk_go, .func (PySem.W.fnOf "go" "Desk.go" (defArgs s_Desk_go) (defBody s_Desk_go) (defScope s_Desk_go) .none kV_Desk_go dc_Desk_go pm_Desk_go an_Desk_go cd_Desk_go ct_Desk_go), sl_Desk_go⟩) (c_Desk_go : PySem.W.codeIn K cd_Desk_go "Desk.go" = true) (k_Desk_go : PySem.W.keepIn K (.ref f_Desk_go) = true)
    {f_Desk_letters : Addr} {od_Desk_letters an_Desk_letters : Option Addr} {sl_Desk_letters : Array (Option Value)} {oc_Desk_letters kV_Desk_letters dc_Desk_letters pm_Desk_letters cd_Desk_letters ct_Desk_letters : Value} (a_Desk_letters : PySem.W.findIn K (.ref C_Desk) "letters" = some (some (.ref f_Desk_letters))) (fn_Desk_letters : PySem.W.isFn K (.ref f_Desk_letters) = true) (l_Desk_letters : K.lookup f_Desk_letters = some ⟨oc_Desk_letters, od_Desk_letters, .func (PySem.W.fnOf "letters" "Desk.letters" (defArgs s_Desk_letters) (defBody s_Desk_letters) (defScope s_Desk_letters) .none kV_Desk_letters dc_Desk_letters pm_Desk_letters an_Desk_letters cd_Desk_letters ct_Desk_letters), sl_Desk_letters⟩) (c_Desk_letters : PySem.W.codeIn K cd_Desk_letters "Desk.letters" = true) (k_Desk_letters : PySem.W.keepIn K (.ref f_Desk_letters) = true)
    {f_Desk_parents_v3 : Addr} {od_Desk_parents_v3 an_Desk_parents_v3 : Option Addr} {sl_Desk_parents_v3 : Array (Option Value)} {oc_Desk_parents_v3 kV_Desk_parents_v3 dc_Desk_parents_v3 pm_Desk_parents_v3 cd_Desk_parents_v3 ct_Desk_parents_v3 : Value} (a_Desk_parents_v3 : PySem.W.findIn K (.ref C_Desk) "parents" = some (some (.ref f_Desk_parents_v3))) (fn_Desk_parents_v3 : PySem.W.isFn K (.ref f_Desk_parents_v3) = true) (l_Desk_parents_v3 : K.lookup f_Desk_parents_v3 = some ⟨oc_Desk_parents_v3, od_Desk_parents_v3, .func (PySem.W.fnOf "parents" "Desk.parents" (defArgs s_Desk_parents_v3) (defBody s_Desk_parents_v3) (defScope s_Desk_parents_v3) .none kV_Desk_parents_v3 dc_Desk_parents_v3 pm_Desk_parents_v3 an_Desk_parents_v3 cd_Desk_parents_v3 ct_Desk_parents_v3), sl_Desk_parents_v3⟩) (c_Desk_parents_v3 : PySem.W.codeIn K cd_Desk_parents_v3 "Desk.parents" = true) (k_Desk_parents_v3 : PySem.W.keepIn K (.ref f_Desk_parents_v3) = true)
    {f_Desk_drawn : Addr} {od_Desk_drawn an_Desk_drawn : Option Addr} {sl_Desk_drawn : Array (Option Value)} {oc_Desk_drawn kV_Desk_drawn dc_Desk_drawn pm_Desk_drawn cd_Desk_drawn ct_Desk_drawn : Value} (a_Desk_drawn : PySem.W.findIn K (.ref C_Desk) "drawn" = some (some (.ref f_Desk_drawn))) (fn_Desk_drawn : PySem.W.isFn K (.ref f_Desk_drawn) = true) (l_Desk_drawn : K.lookup f_Desk_drawn = some ⟨oc_Desk_drawn, od_Desk_drawn, .func (PySem.W.fnOf "drawn" "Desk.drawn" (defArgs s_Desk_drawn) (defBody s_Desk_drawn) (defScope s_Desk_drawn) .none kV_Desk_drawn dc_Desk_drawn pm_Desk_drawn an_Desk_drawn cd_Desk_drawn ct_Desk_drawn), sl_Desk_drawn⟩) (c_Desk_drawn : PySem.W.codeIn K cd_Desk_drawn "Desk.drawn" = true) (k_Desk_drawn : PySem.W.keepIn K (.ref f_Desk_drawn) = true)
    {f_split : Addr} {od_split an_split : Option Addr} {sl_split : Array (Option Value)} {oc_split kV_split dc_split pm_split cd_split ct_split : Value} (a_split : PySem.W.nsIn K mainGlobals "split" = some (some (.ref f_split))) (l_split : K.lookup f_split = some ⟨oc_split, od_split, .func (PySem.W.fnOf "split" "split" (defArgs s_split) (defBody s_split) (defScope s_split) .none kV_split dc_split pm_split an_split cd_split ct_split), sl_split⟩) (c_split : PySem.W.codeIn K cd_split "split" = true) (k_split : PySem.W.keepIn K (.ref f_split) = true)
    {f_ways_from : Addr} {od_ways_from an_ways_from : Option Addr} {sl_ways_from : Array (Option Value)} {oc_ways_from kV_ways_from dc_ways_from pm_ways_from cd_ways_from ct_ways_from : Value} (a_ways_from : PySem.W.nsIn K mainGlobals "ways_from" = some (some (.ref f_ways_from))) (l_ways_from : K.lookup f_ways_from = some ⟨oc_ways_from, od_ways_from, .func (PySem.W.fnOf "ways_from" "ways_from" (defArgs s_ways_from) (defBody s_ways_from) (defScope s_ways_from) .none kV_ways_from dc_ways_from pm_ways_from an_ways_from cd_ways_from ct_ways_from), sl_ways_from⟩) (c_ways_from : PySem.W.codeIn K cd_ways_from "ways_from" = true) (k_ways_from : PySem.W.keepIn K (.ref f_ways_from) = true)
    {f_talks : Addr} {od_talks an_talks : Option Addr} {sl_talks : Array (Option Value)} {oc_talks kV_talks dc_talks pm_talks cd_talks ct_talks : Value} (a_talks : PySem.W.nsIn K mainGlobals "talks" = some (some (.ref f_talks))) (l_talks : K.lookup f_talks = some ⟨oc_talks, od_talks, .func (PySem.W.fnOf "talks" "talks" (defArgs s_talks) (defBody s_talks) (defScope s_talks) .none kV_talks dc_talks pm_talks an_talks cd_talks ct_talks), sl_talks⟩) (c_talks : PySem.W.codeIn K cd_talks "talks" = true) (k_talks : PySem.W.keepIn K (.ref f_talks) = true)
    {f_judged : Addr} {od_judged an_judged : Option Addr} {sl_judged : Array (Option Value)} {oc_judged kV_judged dc_judged pm_judged cd_judged ct_judged : Value} (a_judged : PySem.W.nsIn K mainGlobals "judged" = some (some (.ref f_judged))) (l_judged : K.lookup f_judged = some ⟨oc_judged, od_judged, .func (PySem.W.fnOf "judged" "judged" (defArgs s_judged) (defBody s_judged) (defScope s_judged) .none kV_judged dc_judged pm_judged an_judged cd_judged ct_judged), sl_judged⟩) (c_judged : PySem.W.codeIn K cd_judged "judged" = true) (k_judged : PySem.W.keepIn K (.ref f_judged) = true)
    {f__law_turned : Addr} {od__law_turned an__law_turned : Option Addr} {sl__law_turned : Array (Option Value)} {oc__law_turned kV__law_turned dc__law_turned pm__law_turned cd__law_turned ct__law_turned : Value} (a__law_turned : PySem.W.nsIn K mainGlobals "_law_turned" = some (some (.ref f__law_turned))) (l__law_turned : K.lookup f__law_turned = some ⟨oc__law_turned, od__law_turned, .func (PySem.W.fnOf "_law_turned" "_law_turned" (defArgs s__law_turned) (defBody s__law_turned) (defScope s__law_turned) .none kV__law_turned dc__law_turned pm__law_turned an__law_turned cd__law_turned ct__law_turned), sl__law_turned⟩) (c__law_turned : PySem.W.codeIn K cd__law_turned "_law_turned" = true) (k__law_turned : PySem.W.keepIn K (.ref f__law_turned) = true)
    {f__law_parents_right : Addr} {od__law_parents_right an__law_parents_right : Option Addr} {sl__law_parents_right : Array (Option Value)} {oc__law_parents_right kV__law_parents_right dc__law_parents_right pm__law_parents_right cd__law_parents_right ct__law_parents_right : Value} (a__law_parents_right : PySem.W.nsIn K mainGlobals "_law_parents_right" = some (some (.ref f__law_parents_right))) (l__law_parents_right : K.lookup f__law_parents_right = some ⟨oc__law_parents_right, od__law_parents_right, .func (PySem.W.fnOf "_law_parents_right" "_law_parents_right" (defArgs s__law_parents_right) (defBody s__law_parents_right) (defScope s__law_parents_right) .none kV__law_parents_right dc__law_parents_right pm__law_parents_right an__law_parents_right cd__law_parents_right ct__law_parents_right), sl__law_parents_right⟩) (c__law_parents_right : PySem.W.codeIn K cd__law_parents_right "_law_parents_right" = true) (k__law_parents_right : PySem.W.keepIn K (.ref f__law_parents_right) = true)
    {f__law_titles_right : Addr} {od__law_titles_right an__law_titles_right : Option Addr} {sl__law_titles_right : Array (Option Value)} {oc__law_titles_right kV__law_titles_right dc__law_titles_right pm__law_titles_right cd__law_titles_right ct__law_titles_right : Value} (a__law_titles_right : PySem.W.nsIn K mainGlobals "_law_titles_right" = some (some (.ref f__law_titles_right))) (l__law_titles_right : K.lookup f__law_titles_right = some ⟨oc__law_titles_right, od__law_titles_right, .func (PySem.W.fnOf "_law_titles_right" "_law_titles_right" (defArgs s__law_titles_right) (defBody s__law_titles_right) (defScope s__law_titles_right) .none kV__law_titles_right dc__law_titles_right pm__law_titles_right an__law_titles_right cd__law_titles_right ct__law_titles_right), sl__law_titles_right⟩) (c__law_titles_right : PySem.W.codeIn K cd__law_titles_right "_law_titles_right" = true) (k__law_titles_right : PySem.W.keepIn K (.ref f__law_titles_right) = true)
    {f__law_talks_right_v2 : Addr} {od__law_talks_right_v2 an__law_talks_right_v2 : Option Addr} {sl__law_talks_right_v2 : Array (Option Value)} {oc__law_talks_right_v2 kV__law_talks_right_v2 dc__law_talks_right_v2 pm__law_talks_right_v2 cd__law_talks_right_v2 ct__law_talks_right_v2 : Value} (a__law_talks_right_v2 : PySem.W.nsIn K mainGlobals "_law_talks_right" = some (some (.ref f__law_talks_right_v2))) (l__law_talks_right_v2 : K.lookup f__law_talks_right_v2 = some ⟨oc__law_talks_right_v2, od__law_talks_right_v2, .func (PySem.W.fnOf "_law_talks_right" "_law_talks_right" (defArgs s__law_talks_right_v2) (defBody s__law_talks_right_v2) (defScope s__law_talks_right_v2) .none kV__law_talks_right_v2 dc__law_talks_right_v2 pm__law_talks_right_v2 an__law_talks_right_v2 cd__law_talks_right_v2 ct__law_talks_right_v2), sl__law_talks_right_v2⟩) (c__law_talks_right_v2 : PySem.W.codeIn K cd__law_talks_right_v2 "_law_talks_right" = true) (k__law_talks_right_v2 : PySem.W.keepIn K (.ref f__law_talks_right_v2) = true)
    {f__law_rows_right_v4 : Addr} {od__law_rows_right_v4 an__law_rows_right_v4 : Option Addr} {sl__law_rows_right_v4 : Array (Option Value)} {oc__law_rows_right_v4 kV__law_rows_right_v4 dc__law_rows_right_v4 pm__law_rows_right_v4 cd__law_rows_right_v4 ct__law_rows_right_v4 : Value} (a__law_rows_right_v4 : PySem.W.nsIn K mainGlobals "_law_rows_right" = some (some (.ref f__law_rows_right_v4))) (l__law_rows_right_v4 : K.lookup f__law_rows_right_v4 = some ⟨oc__law_rows_right_v4, od__law_rows_right_v4, .func (PySem.W.fnOf "_law_rows_right" "_law_rows_right" (defArgs s__law_rows_right_v4) (defBody s__law_rows_right_v4) (defScope s__law_rows_right_v4) .none kV__law_rows_right_v4 dc__law_rows_right_v4 pm__law_rows_right_v4 an__law_rows_right_v4 cd__law_rows_right_v4 ct__law_rows_right_v4), sl__law_rows_right_v4⟩) (c__law_rows_right_v4 : PySem.W.codeIn K cd__law_rows_right_v4 "_law_rows_right" = true) (k__law_rows_right_v4 : PySem.W.keepIn K (.ref f__law_rows_right_v4) = true)
    {f__law_desk_right_v2 : Addr} {od__law_desk_right_v2 an__law_desk_right_v2 : Option Addr} {sl__law_desk_right_v2 : Array (Option Value)} {oc__law_desk_right_v2 kV__law_desk_right_v2 dc__law_desk_right_v2 pm__law_desk_right_v2 cd__law_desk_right_v2 ct__law_desk_right_v2 : Value} (a__law_desk_right_v2 : PySem.W.nsIn K mainGlobals "_law_desk_right" = some (some (.ref f__law_desk_right_v2))) (l__law_desk_right_v2 : K.lookup f__law_desk_right_v2 = some ⟨oc__law_desk_right_v2, od__law_desk_right_v2, .func (PySem.W.fnOf "_law_desk_right" "_law_desk_right" (defArgs s__law_desk_right_v2) (defBody s__law_desk_right_v2) (defScope s__law_desk_right_v2) .none kV__law_desk_right_v2 dc__law_desk_right_v2 pm__law_desk_right_v2 an__law_desk_right_v2 cd__law_desk_right_v2 ct__law_desk_right_v2), sl__law_desk_right_v2⟩) (c__law_desk_right_v2 : PySem.W.codeIn K cd__law_desk_right_v2 "_law_desk_right" = true) (k__law_desk_right_v2 : PySem.W.keepIn K (.ref f__law_desk_right_v2) = true)
    {f_law : Addr} {od_law an_law : Option Addr} {sl_law : Array (Option Value)} {oc_law kV_law dc_law pm_law cd_law ct_law : Value} (a_law : PySem.W.nsIn K mainGlobals "law" = some (some (.ref f_law))) (l_law : K.lookup f_law = some ⟨oc_law, od_law, .func (PySem.W.fnOf "law" "law" (defArgs s_law) (defBody s_law) (defScope s_law) .none kV_law dc_law pm_law an_law cd_law ct_law), sl_law⟩) (c_law : PySem.W.codeIn K cd_law "law" = true) (k_law : PySem.W.keepIn K (.ref f_law) = true) :
    ∃ fd : FuncData, (∀ (s : Shared) (v : Value), BindsTo s fd ⟨[v], []⟩ [("_law_script", v)]) ∧ ∀ base : Heap, K.In base → base.Ns mainGlobals mg → FnOk l.prog w K mg base (L2.CX l.prog w) 128 fa fd ["_law_script"] (spLaw K) := by
  have e := hfa.symm.trans (PySem.W.mg_of X G a_law)
  cases e
  have F__wall := fun_mk (st := s__wall) l__wall c__wall k__wall
  have D__wall := fun (base : Heap) => ok__wall (P := l.prog) (w := w) (base := base) T F__wall (PySem.W.mg_of X G a__wall) (F__wall.binds (ps := ["k"]) fun _ _ _ _ _ _ us hl => match us, hl with | [_], _ => rfl)
  have F_is_name := fun_mk (st := s_is_name) l_is_name c_is_name k_is_name
  have D_is_name := fun (base : Heap) => ok_is_name (P := l.prog) (w := w) (base := base) T F_is_name (PySem.W.mg_of X G a_is_name) (F_is_name.binds (ps := ["thing"]) fun _ _ _ _ _ _ us hl => match us, hl with | [_], _ => rfl)
  have F_is_title := fun_mk (st := s_is_title) l_is_title c_is_title k_is_title
  have D_is_title := fun (base : Heap) => ok_is_title (P := l.prog) (w := w) (base := base) T F_is_title (PySem.W.mg_of X G a_is_title) (F_is_title.binds (ps := ["thing"]) fun _ _ _ _ _ _ us hl => match us, hl with | [_], _ => rfl)
  have F_is_letter := fun_mk (st := s_is_letter) l_is_letter c_is_letter k_is_letter
  have D_is_letter := fun (base : Heap) => ok_is_letter (P := l.prog) (w := w) (base := base) T (D_is_name base) (D_is_title base) F_is_letter (PySem.W.mg_of X G a_is_letter) (F_is_letter.binds (ps := ["thing"]) fun _ _ _ _ _ _ us hl => match us, hl with | [_], _ => rfl)
  have F_check_letter := fun_mk (st := s_check_letter) l_check_letter c_check_letter k_check_letter
  have D_check_letter := fun (base : Heap) => ok_check_letter (P := l.prog) (w := w) (base := base) T (D_is_letter base) F_check_letter (PySem.W.mg_of X G a_check_letter) (F_check_letter.binds (ps := ["letter"]) fun _ _ _ _ _ _ us hl => match us, hl with | [_], _ => rfl)
  have F_check_letters := fun_mk (st := s_check_letters) l_check_letters c_check_letters k_check_letters
  have D_check_letters := fun (base : Heap) => ok_check_letters (P := l.prog) (w := w) (base := base) T (D_is_letter base) F_check_letters (PySem.W.mg_of X G a_check_letters) (F_check_letters.binds (ps := ["letters"]) fun _ _ _ _ _ _ us hl => match us, hl with | [_], _ => rfl)
  have F_bare_of := fun_mk (st := s_bare_of) l_bare_of c_bare_of k_bare_of
  have D_bare_of := fun (base : Heap) => ok_bare_of (P := l.prog) (w := w) (base := base) T F_bare_of (PySem.W.mg_of X G a_bare_of) (F_bare_of.binds (ps := ["title"]) fun _ _ _ _ _ _ us hl => match us, hl with | [_], _ => rfl)
  have F_bare := fun_mk (st := s_bare) l_bare c_bare k_bare
  have D_bare := fun (base : Heap) => ok_bare (P := l.prog) (w := w) (base := base) T (D_is_title base) (D_bare_of base) F_bare (PySem.W.mg_of X G a_bare) (F_bare.binds (ps := ["title"]) fun _ _ _ _ _ _ us hl => match us, hl with | [_], _ => rfl)
  have F_copied := fun_mk (st := s_copied) l_copied c_copied k_copied
  have D_copied := fun (base : Heap) => ok_copied (P := l.prog) (w := w) (base := base) T F_copied (PySem.W.mg_of X G a_copied) (F_copied.binds (ps := ["letters"]) fun _ _ _ _ _ _ us hl => match us, hl with | [_], _ => rfl)
  have F_names_of := fun_mk (st := s_names_of) l_names_of c_names_of k_names_of
  have D_names_of := fun (base : Heap) => ok_names_of (P := l.prog) (w := w) (base := base) T F_names_of (PySem.W.mg_of X G a_names_of) (F_names_of.binds (ps := ["letters"]) fun _ _ _ _ _ _ us hl => match us, hl with | [_], _ => rfl)
  have F_told_parent := fun_mk (st := s_told_parent) l_told_parent c_told_parent k_told_parent
  have D_told_parent := fun (base : Heap) => ok_told_parent (P := l.prog) (w := w) (base := base) T F_told_parent (PySem.W.mg_of X G a_told_parent) (F_told_parent.binds (ps := ["letters", "name"]) fun _ _ _ _ _ _ us hl => match us, hl with | [_, _], _ => rfl)
  have F_wanted_of := fun_mk (st := s_wanted_of) l_wanted_of c_wanted_of k_wanted_of
  have D_wanted_of := fun (base : Heap) => ok_wanted_of (P := l.prog) (w := w) (base := base) T (D_names_of base) (D_told_parent base) F_wanted_of (PySem.W.mg_of X G a_wanted_of) (F_wanted_of.binds (ps := ["letters"]) fun _ _ _ _ _ _ us hl => match us, hl with | [_], _ => rfl)
  have F_ring_of := fun_mk (st := s_ring_of) l_ring_of c_ring_of k_ring_of
  have D_ring_of := fun (base : Heap) => ok_ring_of (P := l.prog) (w := w) (base := base) T F_ring_of (PySem.W.mg_of X G a_ring_of) (F_ring_of.binds (ps := ["wanted", "name"]) fun _ _ _ _ _ _ us hl => match us, hl with | [_, _], _ => rfl)
  have F_parents_of := fun_mk (st := s_parents_of) l_parents_of c_parents_of k_parents_of
  have D_parents_of := fun (base : Heap) => ok_parents_of (P := l.prog) (w := w) (base := base) T (D_wanted_of base) (D_names_of base) (D_ring_of base) F_parents_of (PySem.W.mg_of X G a_parents_of) (F_parents_of.binds (ps := ["letters"]) fun _ _ _ _ _ _ us hl => match us, hl with | [_], _ => rfl)
  have F_parents := fun_mk (st := s_parents) l_parents c_parents k_parents
  have D_parents := fun (base : Heap) => ok_parents (P := l.prog) (w := w) (base := base) T (D_check_letters base) (D_parents_of base) F_parents (PySem.W.mg_of X G a_parents) (F_parents.binds (ps := ["letters"]) fun _ _ _ _ _ _ us hl => match us, hl with | [_], _ => rfl)
  have F_children_of := fun_mk (st := s_children_of) l_children_of c_children_of k_children_of
  have D_children_of := fun (base : Heap) => ok_children_of (P := l.prog) (w := w) (base := base) T F_children_of (PySem.W.mg_of X G a_children_of) (F_children_of.binds (ps := ["found", "name"]) fun _ _ _ _ _ _ us hl => match us, hl with | [_, _], _ => rfl)
  have F_line_of := fun_mk (st := s_line_of) l_line_of c_line_of k_line_of
  have D_line_of := fun (base : Heap) => ok_line_of (P := l.prog) (w := w) (base := base) T F_line_of (PySem.W.mg_of X G a_line_of) (F_line_of.binds (ps := ["found", "name"]) fun _ _ _ _ _ _ us hl => match us, hl with | [_, _], _ => rfl)
  have F_split_of := fun_mk (st := s_split_of) l_split_of c_split_of k_split_of
  have D_split_of := fun (base : Heap) => ok_split_of (P := l.prog) (w := w) (base := base) T (D_bare_of base) (D_line_of base) F_split_of (PySem.W.mg_of X G a_split_of) (F_split_of.binds (ps := ["letters", "found"]) fun _ _ _ _ _ _ us hl => match us, hl with | [_, _], _ => rfl)
  have F_tied_of := fun_mk (st := s_tied_of) l_tied_of c_tied_of k_tied_of
  have D_tied_of := fun (base : Heap) => ok_tied_of (P := l.prog) (w := w) (base := base) T (D_parents_of base) (D_split_of base) (D_bare_of base) (D_children_of base) F_tied_of (PySem.W.mg_of X G a_tied_of) (F_tied_of.binds (ps := ["letters"]) fun _ _ _ _ _ _ us hl => match us, hl with | [_], _ => rfl)
  have F_Together___init__ := fun_mk (st := s_Together___init__) l_Together___init__ c_Together___init__ k_Together___init__
  have D_Together___init__ := fun (base : Heap) => ok_Together___init__ (P := l.prog) (w := w) (base := base) T F_Together___init__ (PySem.W.mg_of X G u_Together) ⟨mk_Together, a_Together___init__, fn_Together___init__, kc_Together⟩ (F_Together___init__.binds (ps := ["self", "path"]) fun _ _ _ _ _ _ us hl => match us, hl with | [_, _], _ => rfl)
  have F_Together_shows := fun_mk (st := s_Together_shows) l_Together_shows c_Together_shows k_Together_shows
  have D_Together_shows := fun (base : Heap) => ok_Together_shows (P := l.prog) (w := w) (base := base) T (D_tied_of base) F_Together_shows (PySem.W.mg_of X G u_Together) ⟨pg_Together, hd_Together, po_Together, sa_Together⟩ ⟨a_Together_shows, fn_Together_shows, k_Together_shows⟩ (F_Together_shows.binds (ps := ["self", "letters", "one", "other"]) fun _ _ _ _ _ _ us hl => match us, hl with | [_, _, _, _], _ => rfl)
  have F_Apart___init__ := fun_mk (st := s_Apart___init__) l_Apart___init__ c_Apart___init__ k_Apart___init__
  have D_Apart___init__ := fun (base : Heap) => ok_Apart___init__ (P := l.prog) (w := w) (base := base) T F_Apart___init__ (PySem.W.mg_of X G u_Apart) ⟨mk_Apart, a_Apart___init__, fn_Apart___init__, kc_Apart⟩ (F_Apart___init__.binds (ps := ["self", "names"]) fun _ _ _ _ _ _ us hl => match us, hl with | [_, _], _ => rfl)
  have F_Apart_shows := fun_mk (st := s_Apart_shows) l_Apart_shows c_Apart_shows k_Apart_shows
  have D_Apart_shows := fun (base : Heap) => ok_Apart_shows (P := l.prog) (w := w) (base := base) T (D_tied_of base) F_Apart_shows (PySem.W.mg_of X G u_Apart) ⟨pg_Apart, hd_Apart, po_Apart, sa_Apart⟩ ⟨a_Apart_shows, fn_Apart_shows, k_Apart_shows⟩ (F_Apart_shows.binds (ps := ["self", "letters", "one", "other"]) fun _ _ _ _ _ _ us hl => match us, hl with | [_, _, _, _], _ => rfl)
  have F_row_of := fun_mk (st := s_row_of) l_row_of c_row_of k_row_of
  have D_row_of := fun (base : Heap) => ok_row_of (P := l.prog) (w := w) (base := base) T (D_is_name base) F_row_of (PySem.W.mg_of X G a_row_of) (F_row_of.binds (ps := ["text"]) fun _ _ _ _ _ _ us hl => match us, hl with | [_], _ => rfl)
  have F_read_of := fun_mk (st := s_read_of) l_read_of c_read_of k_read_of
  have D_read_of := fun (base : Heap) => ok_read_of (P := l.prog) (w := w) (base := base) T (D_row_of base) F_read_of (PySem.W.mg_of X G a_read_of) (F_read_of.binds (ps := ["rows"]) fun _ _ _ _ _ _ us hl => match us, hl with | [_], _ => rfl)
  have F_Forest___init__ := fun_mk (st := s_Forest___init__) l_Forest___init__ c_Forest___init__ k_Forest___init__
  have D_Forest___init__ := fun (base : Heap) => ok_Forest___init__ (P := l.prog) (w := w) (base := base) T F_Forest___init__ (PySem.W.mg_of X G u_Forest) ⟨mk_Forest, a_Forest___init__, fn_Forest___init__, kc_Forest⟩ (F_Forest___init__.binds (ps := ["self", "ties"]) fun _ _ _ _ _ _ us hl => match us, hl with | [_, _], _ => rfl)
  have F_Forest_shows := fun_mk (st := s_Forest_shows) l_Forest_shows c_Forest_shows k_Forest_shows
  have D_Forest_shows := fun (base : Heap) => ok_Forest_shows (P := l.prog) (w := w) (base := base) T (D_read_of base) F_Forest_shows (PySem.W.mg_of X G u_Forest) ⟨pg_Forest, hd_Forest, po_Forest, sa_Forest⟩ ⟨a_Forest_shows, fn_Forest_shows, k_Forest_shows⟩ (F_Forest_shows.binds (ps := ["self", "rows"]) fun _ _ _ _ _ _ us hl => match us, hl with | [_, _], _ => rfl)
  have F_Wrong___init__ := fun_mk (st := s_Wrong___init__) l_Wrong___init__ c_Wrong___init__ k_Wrong___init__
  have D_Wrong___init__ := fun (base : Heap) => ok_Wrong___init__ (P := l.prog) (w := w) (base := base) T F_Wrong___init__ (PySem.W.mg_of X G u_Wrong) ⟨mk_Wrong, a_Wrong___init__, fn_Wrong___init__, kc_Wrong⟩ (F_Wrong___init__.binds (ps := ["self", "row"]) fun _ _ _ _ _ _ us hl => match us, hl with | [_, _], _ => rfl)
  have F_Wrong_shows := fun_mk (st := s_Wrong_shows) l_Wrong_shows c_Wrong_shows k_Wrong_shows
  have D_Wrong_shows := fun (base : Heap) => ok_Wrong_shows (P := l.prog) (w := w) (base := base) T (D_read_of base) F_Wrong_shows (PySem.W.mg_of X G u_Wrong) ⟨pg_Wrong, hd_Wrong, po_Wrong, sa_Wrong⟩ ⟨a_Wrong_shows, fn_Wrong_shows, k_Wrong_shows⟩ (F_Wrong_shows.binds (ps := ["self", "rows"]) fun _ _ _ _ _ _ us hl => match us, hl with | [_, _], _ => rfl)
  have F_has_letter := fun_mk (st := s_has_letter) l_has_letter c_has_letter k_has_letter
  have D_has_letter := fun (base : Heap) => ok_has_letter (P := l.prog) (w := w) (base := base) T (D_children_of base) F_has_letter (PySem.W.mg_of X G a_has_letter) (F_has_letter.binds (ps := ["found", "here", "name"]) fun _ _ _ _ _ _ us hl => match us, hl with | [_, _, _], _ => rfl)
  have F_kept_children := fun_mk (st := s_kept_children) l_kept_children c_kept_children k_kept_children
  have D_kept_children := fun (base : Heap) => ok_kept_children (P := l.prog) (w := w) (base := base) T (D_children_of base) (D_has_letter base) F_kept_children (PySem.W.mg_of X G a_kept_children) (F_kept_children.binds (ps := ["found", "here", "name"]) fun _ _ _ _ _ _ us hl => match us, hl with | [_, _, _], _ => rfl)
  have F_rows_below := fun_mk (st := s_rows_below) l_rows_below c_rows_below k_rows_below
  have D_rows_below := fun (base : Heap) => ok_rows_below (P := l.prog) (w := w) (base := base) T (D_kept_children base) F_rows_below (PySem.W.mg_of X G a_rows_below) (F_rows_below.binds (ps := ["found", "here", "name", "deep"]) fun _ _ _ _ _ _ us hl => match us, hl with | [_, _, _, _], _ => rfl)
  have F_first_rows := fun_mk (st := s_first_rows) l_first_rows c_first_rows k_first_rows
  have D_first_rows := fun (base : Heap) => ok_first_rows (P := l.prog) (w := w) (base := base) T (D_kept_children base) F_first_rows (PySem.W.mg_of X G a_first_rows) (F_first_rows.binds (ps := ["found", "here"]) fun _ _ _ _ _ _ us hl => match us, hl with | [_, _], _ => rfl)
  have F_drawn := fun_mk (st := s_drawn) l_drawn c_drawn k_drawn
  have D_drawn := fun (base : Heap) => ok_drawn (P := l.prog) (w := w) (base := base) T (D_check_letters base) (D_parents_of base) (D_first_rows base) (D_rows_below base) F_drawn (PySem.W.mg_of X G a_drawn) (F_drawn.binds (ps := ["letters"]) fun _ _ _ _ _ _ us hl => match us, hl with | [_], _ => rfl)
  have D_drawn_drawn := fun (base : Heap) => DefP.re (y := "drawn_drawn") (D_drawn base) (PySem.W.mg_of X G a_drawn) (PySem.W.mg_of X G al_drawn_drawn)
  have F_read := fun_mk (st := s_read) l_read c_read k_read
  have D_read := fun (base : Heap) => ok_read (P := l.prog) (w := w) (base := base) T (D_read_of base) (D_Forest___init__ base) (D_Wrong___init__ base) F_read (PySem.W.mg_of X G a_read) (F_read.binds (ps := ["rows"]) fun _ _ _ _ _ _ us hl => match us, hl with | [_], _ => rfl)
  have F_changes_of := fun_mk (st := s_changes_of) l_changes_of c_changes_of k_changes_of
  have D_changes_of := fun (base : Heap) => ok_changes_of (P := l.prog) (w := w) (base := base) T F_changes_of (PySem.W.mg_of X G a_changes_of) (F_changes_of.binds (ps := ["before", "after"]) fun _ _ _ _ _ _ us hl => match us, hl with | [_, _], _ => rfl)
  have F_Desk___init__ := fun_mk (st := s_Desk___init__) l_Desk___init__ c_Desk___init__ k_Desk___init__
  have D_Desk___init__ := fun (base : Heap) => ok_Desk___init__ (P := l.prog) (w := w) (base := base) T F_Desk___init__ (PySem.W.mg_of X G u_Desk) ⟨mk_Desk, a_Desk___init__, fn_Desk___init__, kc_Desk⟩ (F_Desk___init__.binds (ps := ["self"]) fun _ _ _ _ _ _ us hl => match us, hl with | [_], _ => rfl)
  have F_Desk_come := fun_mk (st := s_Desk_come) l_Desk_come c_Desk_come k_Desk_come
  have D_Desk_come := fun (base : Heap) => ok_Desk_come (P := l.prog) (w := w) (base := base) T (D_copied base) (D_parents_of base) (D_changes_of base) (D_check_letter base) F_Desk_come (PySem.W.mg_of X G u_Desk) ⟨pg_Desk, hd_Desk, po_Desk, sa_Desk⟩ ⟨a_Desk_come, fn_Desk_come, k_Desk_come⟩ (F_Desk_come.binds (ps := ["self", "letter"]) fun _ _ _ _ _ _ us hl => match us, hl with | [_, _], _ => rfl)
  have F_Desk_go := fun_mk (st := s_Desk_go) l_Desk_go c_Desk_go k_Desk_go
  have D_Desk_go := fun (base : Heap) => ok_Desk_go (P := l.prog) (w := w) (base := base) T (D_parents_of base) (D_changes_of base) F_Desk_go (PySem.W.mg_of X G u_Desk) ⟨pg_Desk, hd_Desk, po_Desk, sa_Desk⟩ ⟨a_Desk_go, fn_Desk_go, k_Desk_go⟩ (F_Desk_go.binds (ps := ["self", "name"]) fun _ _ _ _ _ _ us hl => match us, hl with | [_, _], _ => rfl)
  have F_Desk_letters := fun_mk (st := s_Desk_letters) l_Desk_letters c_Desk_letters k_Desk_letters
  have D_Desk_letters := fun (base : Heap) => ok_Desk_letters (P := l.prog) (w := w) (base := base) T (D_copied base) F_Desk_letters (PySem.W.mg_of X G u_Desk) ⟨pg_Desk, hd_Desk, po_Desk, sa_Desk⟩ ⟨a_Desk_letters, fn_Desk_letters, k_Desk_letters⟩ (F_Desk_letters.binds (ps := ["self"]) fun _ _ _ _ _ _ us hl => match us, hl with | [_], _ => rfl)
  have F_Desk_parents_v3 := fun_mk (st := s_Desk_parents_v3) l_Desk_parents_v3 c_Desk_parents_v3 k_Desk_parents_v3
  have D_Desk_parents_v3 := fun (base : Heap) => ok_Desk_parents_v3 (P := l.prog) (w := w) (base := base) T (D__wall base) F_Desk_parents_v3 (PySem.W.mg_of X G u_Desk) ⟨pg_Desk, hd_Desk, po_Desk, sa_Desk⟩ ⟨a_Desk_parents_v3, fn_Desk_parents_v3, k_Desk_parents_v3⟩ (F_Desk_parents_v3.binds (ps := ["self"]) fun _ _ _ _ _ _ us hl => match us, hl with | [_], _ => rfl)
  have F_Desk_drawn := fun_mk (st := s_Desk_drawn) l_Desk_drawn c_Desk_drawn k_Desk_drawn
  have D_Desk_drawn := fun (base : Heap) => ok_Desk_drawn (P := l.prog) (w := w) (base := base) T (D_drawn_drawn base) F_Desk_drawn (PySem.W.mg_of X G u_Desk) ⟨pg_Desk, hd_Desk, po_Desk, sa_Desk⟩ ⟨a_Desk_drawn, fn_Desk_drawn, k_Desk_drawn⟩ (F_Desk_drawn.binds (ps := ["self"]) fun _ _ _ _ _ _ us hl => match us, hl with | [_], _ => rfl)
  have F_split := fun_mk (st := s_split) l_split c_split k_split
  have D_split := fun (base : Heap) => ok_split (P := l.prog) (w := w) (base := base) T (D_check_letters base) (D_parents_of base) (D_split_of base) F_split (PySem.W.mg_of X G a_split) (F_split.binds (ps := ["letters"]) fun _ _ _ _ _ _ us hl => match us, hl with | [_], _ => rfl)
  have F_ways_from := fun_mk (st := s_ways_from) l_ways_from c_ways_from k_ways_from
  have D_ways_from := fun (base : Heap) => ok_ways_from (P := l.prog) (w := w) (base := base) T F_ways_from (PySem.W.mg_of X G a_ways_from) (F_ways_from.binds (ps := ["near", "first"]) fun _ _ _ _ _ _ us hl => match us, hl with | [_, _], _ => rfl)
  have F_talks := fun_mk (st := s_talks) l_talks c_talks k_talks
  have D_talks := fun (base : Heap) => ok_talks (P := l.prog) (w := w) (base := base) T (D_check_letters base) (D_tied_of base) (D_ways_from base) F_talks (PySem.W.mg_of X G a_talks) (F_talks.binds (ps := ["letters"]) fun _ _ _ _ _ _ us hl => match us, hl with | [_], _ => rfl)
  have F_judged := fun_mk (st := s_judged) l_judged c_judged k_judged
  have D_judged := fun (base : Heap) => ok_judged (P := l.prog) (w := w) (base := base) T (D_check_letters base) (D_tied_of base) (D_ways_from base) (D_Together___init__ base) (D_Apart___init__ base) F_judged (PySem.W.mg_of X G a_judged) (F_judged.binds (ps := ["letters", "one", "other"]) fun _ _ _ _ _ _ us hl => match us, hl with | [_, _, _], _ => rfl)
  have F__law_turned := fun_mk (st := s__law_turned) l__law_turned c__law_turned k__law_turned
  have D__law_turned := fun (base : Heap) => ok__law_turned (P := l.prog) (w := w) (base := base) T F__law_turned (PySem.W.mg_of X G a__law_turned) (F__law_turned.binds (ps := ["_law_letters", "_law_by"]) fun _ _ _ _ _ _ us hl => match us, hl with | [_, _], _ => rfl)
  have F__law_parents_right := fun_mk (st := s__law_parents_right) l__law_parents_right c__law_parents_right k__law_parents_right
  have D__law_parents_right := fun (base : Heap) => ok__law_parents_right (P := l.prog) (w := w) (base := base) T (D__law_turned base) (D_parents base) F__law_parents_right (PySem.W.mg_of X G a__law_parents_right) (F__law_parents_right.binds (ps := ["_law_by"]) fun _ _ _ _ _ _ us hl => match us, hl with | [_], _ => rfl)
  have F__law_titles_right := fun_mk (st := s__law_titles_right) l__law_titles_right c__law_titles_right k__law_titles_right
  have D__law_titles_right := fun (base : Heap) => ok__law_titles_right (P := l.prog) (w := w) (base := base) T (D_bare base) F__law_titles_right (PySem.W.mg_of X G a__law_titles_right) (F__law_titles_right.binds (ps := []) fun _ _ _ _ _ _ us hl => match us, hl with | [], _ => rfl)
  have F__law_talks_right_v2 := fun_mk (st := s__law_talks_right_v2) l__law_talks_right_v2 c__law_talks_right_v2 k__law_talks_right_v2
  have D__law_talks_right_v2 := fun (base : Heap) => ok__law_talks_right_v2 (P := l.prog) (w := w) (base := base) T (D__law_turned base) (D_split base) (D_talks base) (D_Together___init__ base) (D_Apart_shows base) (D_Together_shows base) (D_Apart___init__ base) (D_judged base) F__law_talks_right_v2 (PySem.W.mg_of X G a__law_talks_right_v2) (F__law_talks_right_v2.binds (ps := ["_law_by"]) fun _ _ _ _ _ _ us hl => match us, hl with | [_], _ => rfl)
  have F__law_rows_right_v4 := fun_mk (st := s__law_rows_right_v4) l__law_rows_right_v4 c__law_rows_right_v4 k__law_rows_right_v4
  have D__law_rows_right_v4 := fun (base : Heap) => ok__law_rows_right_v4 (P := l.prog) (w := w) (base := base) T (D_drawn_drawn base) (D__law_turned base) (D_read base) F__law_rows_right_v4 (PySem.W.mg_of X G a__law_rows_right_v4) (F__law_rows_right_v4.binds (ps := ["_law_by"]) fun _ _ _ _ _ _ us hl => match us, hl with | [_], _ => rfl)
  have F__law_desk_right_v2 := fun_mk (st := s__law_desk_right_v2) l__law_desk_right_v2 c__law_desk_right_v2 k__law_desk_right_v2
  have D__law_desk_right_v2 := fun (base : Heap) => ok__law_desk_right_v2 (P := l.prog) (w := w) (base := base) T (D_Desk___init__ base) (D_Desk_go base) (D_Desk_come base) (D_Desk_letters base) (D_Desk_drawn base) F__law_desk_right_v2 (PySem.W.mg_of X G a__law_desk_right_v2) (F__law_desk_right_v2.binds (ps := []) fun _ _ _ _ _ _ us hl => match us, hl with | [], _ => rfl)
  have F_law := fun_mk (st := s_law) l_law c_law k_law
  exact ⟨PySem.W.fnOf "law" "law" (defArgs s_law) (defBody s_law) (defScope s_law) .none kV_law dc_law pm_law an_law cd_law ct_law, fun s v => .of_eq rfl, fun base _ _ => law_end (ok_law0 (base := base) T (D__law_parents_right base) (D__law_titles_right base) (D__law_talks_right_v2 base) (D__law_rows_right_v4 base) (D__law_desk_right_v2 base) F_law) law_true⟩
end PV
open PySem PySem.W PyProof.Rows
set_option maxRecDepth 100000 in
set_option maxHeartbeats 0 in
theorem PySem.Challenge.cw_replythread_k20_promises_by_hand_holds : PySem.Challenge.rw_replythread_k20_promises_by_hand.Holds := by
  w_on; o_law; k_head; (case hw => w_witness2)
  k_fill
  refine L2.walk_ofB (l := PySem.Challenge.rw_replythread_k20_promises_by_hand) (n := 63) (k := 128) (x := "_law_script") (CX := fun w => L2.CX PySem.Challenge.rw_replythread_k20_promises_by_hand.prog w) (sp := fun w => PV.spLaw _) rfl (by decide) rfl ⟨rfl, by decide, by decide⟩ (fun w h Y => PySem.W.kIn_of Y) ?F (fun w H a ns hl hb hO hS => PV.law_start hl hb hO hS) ?X
  case X => exact fun _ _ _ _ _ h => PV.no_exc h
  case F =>
    intro w mg fa h KX G hmg
    refine' PV.all_mk KX G hmg (PV.txt_mk KX G ?zu_Apart ?zpg_Apart ?zhd_Apart ?zpo_Apart ?zsa_Apart ?zic_Apart ?zit_Apart ?zss_Apart ?zha_Apart ?zhm_Apart ?zu_Desk ?zpg_Desk ?zhd_Desk ?zpo_Desk ?zsa_Desk ?zss_Desk ?zha_Desk ?zhm_Desk ?zu_Forest ?zpg_Forest ?zhd_Forest ?zpo_Forest ?zsa_Forest ?zic_Forest ?zit_Forest ?zss_Forest ?zha_Forest ?zhm_Forest ?zu_Together ?zpg_Together ?zhd_Together ?zpo_Together ?zsa_Together ?zss_Together ?zha_Together ?zhm_Together ?zu_Wrong ?zpg_Wrong ?zhd_Wrong ?zpo_Wrong ?zsa_Wrong ?zic_Wrong ?zit_Wrong ?zss_Wrong ?zha_Wrong ?zhm_Wrong ?zhn ?zht ?a_BadLetter ?x_BadLetter ?k_BadLetter ?b_BadLetter ?t_BadLetter ?a_BadLetters ?x_BadLetters ?k_BadLetters ?b_BadLetters ?t_BadLetters ?a_BadName ?x_BadName ?k_BadName ?b_BadName ?t_BadName ?a_BadRows ?x_BadRows ?k_BadRows ?b_BadRows ?t_BadRows ?a_BadTitle ?x_BadTitle ?k_BadTitle ?b_BadTitle ?t_BadTitle ?a_Known ?x_Known ?k_Known ?b_Known ?t_Known ?a_TooMany ?x_TooMany ?k_TooMany ?b_TooMany ?t_TooMany ?a_LONGEST_NAME ?a_LONGEST_ROW ?a_LONGEST_TITLE ?a_MOST ?a_MOST_ANSWERS ?a_MOST_ROWS ?a_SIGNS ?z_abs ?z_all ?z_any ?z_enumerate ?z_isinstance ?z_len ?z_list ?z_min ?z_range ?z_set ?z_sorted ?z_str ?z_sum ?z_tuple ?z_zip ?zk_Apart_Apart ?zk_Apart_Forest ?zk_Apart_Wrong ?zk_Desk_Apart ?zk_Desk_Forest ?zk_Desk_Wrong ?zk_Forest_Apart ?zk_Forest_Forest ?zk_Forest_Wrong ?zk_Together_Apart ?zk_Together_Forest ?zk_Together_Wrong ?zk_Wrong_Apart ?zk_Wrong_Forest ?zk_Wrong_Wrong ?zn_lying_Desk ?zn_names_Apart ?zn_path_Together ?zn_row_Wrong ?zn_ties_Forest ?ysb_BadTitle ?ydi_BadTitle ?yty_BadTitle ?ysu_BadTitle_BadTitle ?yic_BadTitle ?yga_BadTitle ?ygt_BadTitle ?yha_BadTitle ?yhm_BadTitle) ?u_Apart ?pg_Apart ?hd_Apart ?po_Apart ?sa_Apart ?mk_Apart ?kc_Apart ?u_Desk ?pg_Desk ?hd_Desk ?po_Desk ?sa_Desk ?mk_Desk ?kc_Desk ?u_Forest ?pg_Forest ?hd_Forest ?po_Forest ?sa_Forest ?mk_Forest ?kc_Forest ?u_Together ?pg_Together ?hd_Together ?po_Together ?sa_Together ?mk_Together ?kc_Together ?u_Wrong ?pg_Wrong ?hd_Wrong ?po_Wrong ?sa_Wrong ?mk_Wrong ?kc_Wrong ?a__wall ?l__wall ?c__wall ?k__wall ?a_is_name ?l_is_name ?c_is_name ?k_is_name ?a_is_title ?l_is_title ?c_is_title ?k_is_title ?a_is_letter ?l_is_letter ?c_is_letter ?k_is_letter ?a_check_letter ?l_check_letter ?c_check_letter ?k_check_letter ?a_check_letters ?l_check_letters ?c_check_letters ?k_check_letters ?a_bare_of ?l_bare_of ?c_bare_of ?k_bare_of ?a_bare ?l_bare ?c_bare ?k_bare ?a_copied ?l_copied ?c_copied ?k_copied ?a_names_of ?l_names_of ?c_names_of ?k_names_of ?a_told_parent ?l_told_parent ?c_told_parent ?k_told_parent ?a_wanted_of ?l_wanted_of ?c_wanted_of ?k_wanted_of ?a_ring_of ?l_ring_of ?c_ring_of ?k_ring_of ?a_parents_of ?l_parents_of ?c_parents_of ?k_parents_of ?a_parents ?l_parents ?c_parents ?k_parents ?a_children_of ?l_children_of ?c_children_of ?k_children_of ?a_line_of ?l_line_of ?c_line_of ?k_line_of ?a_split_of ?l_split_of ?c_split_of ?k_split_of ?a_tied_of ?l_tied_of ?c_tied_of ?k_tied_of ?a_Together___init__ ?fn_Together___init__ ?l_Together___init__ ?c_Together___init__ ?k_Together___init__ ?a_Together_shows ?fn_Together_shows ?l_Together_shows ?c_Together_shows ?k_Together_shows ?a_Apart___init__ ?fn_Apart___init__ ?l_Apart___init__ ?c_Apart___init__ ?k_Apart___init__ ?a_Apart_shows ?fn_Apart_shows ?l_Apart_shows ?c_Apart_shows ?k_Apart_shows ?a_row_of ?l_row_of ?c_row_of ?k_row_of ?a_read_of ?l_read_of ?c_read_of ?k_read_of ?a_Forest___init__ ?fn_Forest___init__ ?l_Forest___init__ ?c_Forest___init__ ?k_Forest___init__ ?a_Forest_shows ?fn_Forest_shows ?l_Forest_shows ?c_Forest_shows ?k_Forest_shows ?a_Wrong___init__ ?fn_Wrong___init__ ?l_Wrong___init__ ?c_Wrong___init__ ?k_Wrong___init__ ?a_Wrong_shows ?fn_Wrong_shows ?l_Wrong_shows ?c_Wrong_shows ?k_Wrong_shows ?a_has_letter ?l_has_letter ?c_has_letter ?k_has_letter ?a_kept_children ?l_kept_children ?c_kept_children ?k_kept_children ?a_rows_below ?l_rows_below ?c_rows_below ?k_rows_below ?a_first_rows ?l_first_rows ?c_first_rows ?k_first_rows ?a_drawn ?l_drawn ?c_drawn ?k_drawn ?al_drawn_drawn ?a_read ?l_read ?c_read ?k_read ?a_changes_of ?l_changes_of ?c_changes_of ?k_changes_of ?a_Desk___init__ ?fn_Desk___init__ ?l_Desk___init__ ?c_Desk___init__ ?k_Desk___init__ ?a_Desk_come ?fn_Desk_come ?l_Desk_come ?c_Desk_come ?k_Desk_come ?a_Desk_go ?fn_Desk_go ?l_Desk_go ?c_Desk_go ?k_Desk_go ?a_Desk_letters ?fn_Desk_letters ?l_Desk_letters ?c_Desk_letters ?k_Desk_letters ?a_Desk_parents_v3 ?fn_Desk_parents_v3 ?l_Desk_parents_v3 ?c_Desk_parents_v3 ?k_Desk_parents_v3 ?a_Desk_drawn ?fn_Desk_drawn ?l_Desk_drawn ?c_Desk_drawn ?k_Desk_drawn ?a_split ?l_split ?c_split ?k_split ?a_ways_from ?l_ways_from ?c_ways_from ?k_ways_from ?a_talks ?l_talks ?c_talks ?k_talks ?a_judged ?l_judged ?c_judged ?k_judged ?a__law_turned ?l__law_turned ?c__law_turned ?k__law_turned ?a__law_parents_right ?l__law_parents_right ?c__law_parents_right ?k__law_parents_right ?a__law_titles_right ?l__law_titles_right ?c__law_titles_right ?k__law_titles_right ?a__law_talks_right_v2 ?l__law_talks_right_v2 ?c__law_talks_right_v2 ?k__law_talks_right_v2 ?a__law_rows_right_v4 ?l__law_rows_right_v4 ?c__law_rows_right_v4 ?k__law_rows_right_v4 ?a__law_desk_right_v2 ?l__law_desk_right_v2 ?c__law_desk_right_v2 ?k__law_desk_right_v2 ?a_law ?l_law ?c_law ?k_law
    (case zu_Apart => k_is)
    (case zpg_Apart => k_is)
    (case zhd_Apart => k_is)
    (case zpo_Apart => k_is)
    (case zsa_Apart => k_is)
    (case zic_Apart => k_is)
    (case zit_Apart => k_is)
    (case zss_Apart => k_is)
    (case zha_Apart => k_is)
    (case zhm_Apart => k_is)
    (case zu_Desk => k_is)
    (case zpg_Desk => k_is)
    (case zhd_Desk => k_is)
    (case zpo_Desk => k_is)
    (case zsa_Desk => k_is)
    (case zss_Desk => k_is)
    (case zha_Desk => k_is)
    (case zhm_Desk => k_is)
    (case zu_Forest => k_is)
    (case zpg_Forest => k_is)
    (case zhd_Forest => k_is)
    (case zpo_Forest => k_is)
    (case zsa_Forest => k_is)
    (case zic_Forest => k_is)
    (case zit_Forest => k_is)
    (case zss_Forest => k_is)
    (case zha_Forest => k_is)
    (case zhm_Forest => k_is)
    (case zu_Together => k_is)
    (case zpg_Together => k_is)
    (case zhd_Together => k_is)
    (case zpo_Together => k_is)
    (case zsa_Together => k_is)
    (case zss_Together => k_is)
    (case zha_Together => k_is)
    (case zhm_Together => k_is)
    (case zu_Wrong => k_is)
    (case zpg_Wrong => k_is)
    (case zhd_Wrong => k_is)
    (case zpo_Wrong => k_is)
    (case zsa_Wrong => k_is)
    (case zic_Wrong => k_is)
    (case zit_Wrong => k_is)
    (case zss_Wrong => k_is)
    (case zha_Wrong => k_is)
    (case zhm_Wrong => k_is)
    (case zhn => k_is)
    (case zht => k_is)
    (case a_BadLetter => k_is)
    (case x_BadLetter => k_exc)
    (case k_BadLetter => k_is)
    (case b_BadLetter => k_is)
    (case t_BadLetter => k_is)
    (case a_BadLetters => k_is)
    (case x_BadLetters => k_exc)
    (case k_BadLetters => k_is)
    (case b_BadLetters => k_is)
    (case t_BadLetters => k_is)
    (case a_BadName => k_is)
    (case x_BadName => k_exc)
    (case k_BadName => k_is)
    (case b_BadName => k_is)
    (case t_BadName => k_is)
    (case a_BadRows => k_is)
    (case x_BadRows => k_exc)
    (case k_BadRows => k_is)
    (case b_BadRows => k_is)
    (case t_BadRows => k_is)
    (case a_BadTitle => k_is)
    (case x_BadTitle => k_exc)
    (case k_BadTitle => k_is)
    (case b_BadTitle => k_is)
    (case t_BadTitle => k_is)
    (case a_Known => k_is)
    (case x_Known => k_exc)
    (case k_Known => k_is)
    (case b_Known => k_is)
    (case t_Known => k_is)
    (case a_TooMany => k_is)
    (case x_TooMany => k_exc)
    (case k_TooMany => k_is)
    (case b_TooMany => k_is)
    (case t_TooMany => k_is)
    (case a_LONGEST_NAME => k_is)
    (case a_LONGEST_ROW => k_is)
    (case a_LONGEST_TITLE => k_is)
    (case a_MOST => k_is)
    (case a_MOST_ANSWERS => k_is)
    (case a_MOST_ROWS => k_is)
    (case a_SIGNS => k_is)
    (case z_abs => k_is)
    (case z_all => k_is)
    (case z_any => k_is)
    (case z_enumerate => k_is)
    (case z_isinstance => k_is)
    (case z_len => k_is)
    (case z_list => k_is)
    (case z_min => k_is)
    (case z_range => k_is)
    (case z_set => k_is)
    (case z_sorted => k_is)
    (case z_str => k_is)
    (case z_sum => k_is)
    (case z_tuple => k_is)
    (case z_zip => k_is)
    (case zk_Apart_Apart => k_is)
    (case zk_Apart_Forest => k_is)
    (case zk_Apart_Wrong => k_is)
    (case zk_Desk_Apart => k_is)
    (case zk_Desk_Forest => k_is)
    (case zk_Desk_Wrong => k_is)
    (case zk_Forest_Apart => k_is)
    (case zk_Forest_Forest => k_is)
    (case zk_Forest_Wrong => k_is)
    (case zk_Together_Apart => k_is)
    (case zk_Together_Forest => k_is)
    (case zk_Together_Wrong => k_is)
    (case zk_Wrong_Apart => k_is)
    (case zk_Wrong_Forest => k_is)
    (case zk_Wrong_Wrong => k_is)
    (case zn_lying_Desk => k_is)
    (case zn_names_Apart => k_is)
    (case zn_path_Together => k_is)
    (case zn_row_Wrong => k_is)
    (case zn_ties_Forest => k_is)
    (case ysb_BadTitle => k_is)
    (case ydi_BadTitle => k_is)
    (case yty_BadTitle => k_is)
    (case ysu_BadTitle_BadTitle => k_is)
    (case yic_BadTitle => k_is)
    (case yga_BadTitle => k_is)
    (case ygt_BadTitle => k_is)
    (case yha_BadTitle => k_is)
    (case yhm_BadTitle => k_is)
    (case u_Apart => k_is)
    (case pg_Apart => k_is)
    (case hd_Apart => k_is)
    (case po_Apart => k_is)
    (case sa_Apart => k_is)
    (case mk_Apart => k_is)
    (case kc_Apart => k_is)
    (case u_Desk => k_is)
    (case pg_Desk => k_is)
    (case hd_Desk => k_is)
    (case po_Desk => k_is)
    (case sa_Desk => k_is)
    (case mk_Desk => k_is)
    (case kc_Desk => k_is)
    (case u_Forest => k_is)
    (case pg_Forest => k_is)
    (case hd_Forest => k_is)
    (case po_Forest => k_is)
    (case sa_Forest => k_is)
    (case mk_Forest => k_is)
    (case kc_Forest => k_is)
    (case u_Together => k_is)
    (case pg_Together => k_is)
    (case hd_Together => k_is)
    (case po_Together => k_is)
    (case sa_Together => k_is)
    (case mk_Together => k_is)
    (case kc_Together => k_is)
    (case u_Wrong => k_is)
    (case pg_Wrong => k_is)
    (case hd_Wrong => k_is)
    (case po_Wrong => k_is)
    (case sa_Wrong => k_is)
    (case mk_Wrong => k_is)
    (case kc_Wrong => k_is)
    (case a__wall => k_is)
    (case l__wall => k_is)
    (case c__wall => k_is)
    (case k__wall => k_is)
    (case a_is_name => k_is)
    (case l_is_name => k_is)
    (case c_is_name => k_is)
    (case k_is_name => k_is)
    (case a_is_title => k_is)
    (case l_is_title => k_is)
    (case c_is_title => k_is)
    (case k_is_title => k_is)
    (case a_is_letter => k_is)
    (case l_is_letter => k_is)
    (case c_is_letter => k_is)
    (case k_is_letter => k_is)
    (case a_check_letter => k_is)
    (case l_check_letter => k_is)
    (case c_check_letter => k_is)
    (case k_check_letter => k_is)
    (case a_check_letters => k_is)
    (case l_check_letters => k_is)
    (case c_check_letters => k_is)
    (case k_check_letters => k_is)
    (case a_bare_of => k_is)
    (case l_bare_of => k_is)
    (case c_bare_of => k_is)
    (case k_bare_of => k_is)
    (case a_bare => k_is)
    (case l_bare => k_is)
    (case c_bare => k_is)
    (case k_bare => k_is)
    (case a_copied => k_is)
    (case l_copied => k_is)
    (case c_copied => k_is)
    (case k_copied => k_is)
    (case a_names_of => k_is)
    (case l_names_of => k_is)
    (case c_names_of => k_is)
    (case k_names_of => k_is)
    (case a_told_parent => k_is)
    (case l_told_parent => k_is)
    (case c_told_parent => k_is)
    (case k_told_parent => k_is)
    (case a_wanted_of => k_is)
    (case l_wanted_of => k_is)
    (case c_wanted_of => k_is)
    (case k_wanted_of => k_is)
    (case a_ring_of => k_is)
    (case l_ring_of => k_is)
    (case c_ring_of => k_is)
    (case k_ring_of => k_is)
    (case a_parents_of => k_is)
    (case l_parents_of => k_is)
    (case c_parents_of => k_is)
    (case k_parents_of => k_is)
    (case a_parents => k_is)
    (case l_parents => k_is)
    (case c_parents => k_is)
    (case k_parents => k_is)
    (case a_children_of => k_is)
    (case l_children_of => k_is)
    (case c_children_of => k_is)
    (case k_children_of => k_is)
    (case a_line_of => k_is)
    (case l_line_of => k_is)
    (case c_line_of => k_is)
    (case k_line_of => k_is)
    (case a_split_of => k_is)
    (case l_split_of => k_is)
    (case c_split_of => k_is)
    (case k_split_of => k_is)
    (case a_tied_of => k_is)
    (case l_tied_of => k_is)
    (case c_tied_of => k_is)
    (case k_tied_of => k_is)
    (case a_Together___init__ => k_is)
    (case fn_Together___init__ => k_is)
    (case l_Together___init__ => k_is)
    (case c_Together___init__ => k_is)
    (case k_Together___init__ => k_is)
    (case a_Together_shows => k_is)
    (case fn_Together_shows => k_is)
    (case l_Together_shows => k_is)
    (case c_Together_shows => k_is)
    (case k_Together_shows => k_is)
    (case a_Apart___init__ => k_is)
    (case fn_Apart___init__ => k_is)
    (case l_Apart___init__ => k_is)
    (case c_Apart___init__ => k_is)
    (case k_Apart___init__ => k_is)
    (case a_Apart_shows => k_is)
    (case fn_Apart_shows => k_is)
    (case l_Apart_shows => k_is)
    (case c_Apart_shows => k_is)
    (case k_Apart_shows => k_is)
    (case a_row_of => k_is)
    (case l_row_of => k_is)
    (case c_row_of => k_is)
    (case k_row_of => k_is)
    (case a_read_of => k_is)
    (case l_read_of => k_is)
    (case c_read_of => k_is)
    (case k_read_of => k_is)
    (case a_Forest___init__ => k_is)
    (case fn_Forest___init__ => k_is)
    (case l_Forest___init__ => k_is)
    (case c_Forest___init__ => k_is)
    (case k_Forest___init__ => k_is)
    (case a_Forest_shows => k_is)
    (case fn_Forest_shows => k_is)
    (case l_Forest_shows => k_is)
    (case c_Forest_shows => k_is)
    (case k_Forest_shows => k_is)
    (case a_Wrong___init__ => k_is)
    (case fn_Wrong___init__ => k_is)
    (case l_Wrong___init__ => k_is)
    (case c_Wrong___init__ => k_is)
    (case k_Wrong___init__ => k_is)
    (case a_Wrong_shows => k_is)
    (case fn_Wrong_shows => k_is)
    (case l_Wrong_shows => k_is)
    (case c_Wrong_shows => k_is)
    (case k_Wrong_shows => k_is)
    (case a_has_letter => k_is)
    (case l_has_letter => k_is)
    (case c_has_letter => k_is)
    (case k_has_letter => k_is)
    (case a_kept_children => k_is)
    (case l_kept_children => k_is)
    (case c_kept_children => k_is)
    (case k_kept_children => k_is)
    (case a_rows_below => k_is)
    (case l_rows_below => k_is)
    (case c_rows_below => k_is)
    (case k_rows_below => k_is)
    (case a_first_rows => k_is)
    (case l_first_rows => k_is)
    (case c_first_rows => k_is)
    (case k_first_rows => k_is)
    (case a_drawn => k_is)
    (case l_drawn => k_is)
    (case c_drawn => k_is)
    (case k_drawn => k_is)
    (case al_drawn_drawn => k_is)
    (case a_read => k_is)
    (case l_read => k_is)
    (case c_read => k_is)
    (case k_read => k_is)
    (case a_changes_of => k_is)
    (case l_changes_of => k_is)
    (case c_changes_of => k_is)
    (case k_changes_of => k_is)
    (case a_Desk___init__ => k_is)
    (case fn_Desk___init__ => k_is)
    (case l_Desk___init__ => k_is)
    (case c_Desk___init__ => k_is)
    (case k_Desk___init__ => k_is)
    (case a_Desk_come => k_is)
    (case fn_Desk_come => k_is)
    (case l_Desk_come => k_is)
    (case c_Desk_come => k_is)
    (case k_Desk_come => k_is)
    (case a_Desk_go => k_is)
    (case fn_Desk_go => k_is)
    (case l_Desk_go => k_is)
    (case c_Desk_go => k_is)
    (case k_Desk_go => k_is)
    (case a_Desk_letters => k_is)
    (case fn_Desk_letters => k_is)
    (case l_Desk_letters => k_is)
    (case c_Desk_letters => k_is)
    (case k_Desk_letters => k_is)
    (case a_Desk_parents_v3 => k_is)
    (case fn_Desk_parents_v3 => k_is)
    (case l_Desk_parents_v3 => k_is)
    (case c_Desk_parents_v3 => k_is)
    (case k_Desk_parents_v3 => k_is)
    (case a_Desk_drawn => k_is)
    (case fn_Desk_drawn => k_is)
    (case l_Desk_drawn => k_is)
    (case c_Desk_drawn => k_is)
    (case k_Desk_drawn => k_is)
    (case a_split => k_is)
    (case l_split => k_is)
    (case c_split => k_is)
    (case k_split => k_is)
    (case a_ways_from => k_is)
    (case l_ways_from => k_is)
    (case c_ways_from => k_is)
    (case k_ways_from => k_is)
    (case a_talks => k_is)
    (case l_talks => k_is)
    (case c_talks => k_is)
    (case k_talks => k_is)
    (case a_judged => k_is)
    (case l_judged => k_is)
    (case c_judged => k_is)
    (case k_judged => k_is)
    (case a__law_turned => k_is)
    (case l__law_turned => k_is)
    (case c__law_turned => k_is)
    (case k__law_turned => k_is)
    (case a__law_parents_right => k_is)
    (case l__law_parents_right => k_is)
    (case c__law_parents_right => k_is)
    (case k__law_parents_right => k_is)
    (case a__law_titles_right => k_is)
    (case l__law_titles_right => k_is)
    (case c__law_titles_right => k_is)
    (case k__law_titles_right => k_is)
    (case a__law_talks_right_v2 => k_is)
    (case l__law_talks_right_v2 => k_is)
    (case c__law_talks_right_v2 => k_is)
    (case k__law_talks_right_v2 => k_is)
    (case a__law_rows_right_v4 => k_is)
    (case l__law_rows_right_v4 => k_is)
    (case c__law_rows_right_v4 => k_is)
    (case k__law_rows_right_v4 => k_is)
    (case a__law_desk_right_v2 => k_is)
    (case l__law_desk_right_v2 => k_is)
    (case c__law_desk_right_v2 => k_is)
    (case k__law_desk_right_v2 => k_is)
    (case a_law => k_is)
    (case l_law => k_is)
    (case c_law => k_is)
    (case k_law => k_is)
#print axioms PySem.Challenge.cw_replythread_k20_promises_by_hand_holds


