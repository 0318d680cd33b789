import PyProof.Rows.All
import Wide.All
import OpenK.AllK
import Wide.FinOn
import HandS.ForMost
import HandS.Exc
import HandS.TryMany
import HandS.ExcInit
import HandS.WordsExc
import HandS.Defaults
import HandS.HeadHook2
import HandS.TupAny
import HandS.TupLe
import HandS.Deep
import HandS.Codes
import HandS.Wide
import HandS.Style
import HandS.IsInst
import HandS.Conv
import HandS.SortInts
import HandS.RaiseMore
import HandS.StrMore
import HandS.Rev
import HandS.RevRange
import HandS.FStr
import HandS.Small
import HandS.ExcField
import KE.KExcIs
import HandS.ExcIs
import HandS.Nested
import HandS.Replace
import HandS.BoundList
import KE.GoesMore
import HandS.HeadHook4
import HandS.HotCalls
import HandS.Strs
import HandS.SetFor
import HandS.SetBool
import HandS.Zip
import HandS.Head2
import HandS.EndTab
import HandS.HeadWalk
import PySem.Challenge.RW_trunkcall_k50_accounts_with_papers
set_option Elab.async false
set_option linter.all false
set_option maxRecDepth 100000
set_option maxHeartbeats 0
/-! DL: a layer of plain data over HandS -/
namespace DL
open PySem PySem.Spec PyProof.Rows L2

/-! ### heaps -/
theorem same_sqT {K : PySem.W.Frag} {H H' : Hp} {a : Addr} {xs : List V} (e : Same H H') (h : SqT K H a xs) : SqT K H' a xs := by
  rcases h with (h | ⟨o, h⟩) | h
  · exact .inl (.inl (e _ _ h))
  · exact .inl (.inr ⟨o, e _ _ h⟩)
  · exact .inr h
mutual
theorem dp_mono {K : PySem.W.Frag} {H H' : Hp} (e : Same H H') : ∀ (d : PyData) (v : V), Dp K H v d → Dp K H' v d
  | .none, _, h => by cases h; exact .non
  | .bool b, _, h => by cases h; exact .bl b
  | .int i, _, h => by cases h; exact .int i
  | .str x, _, h => by cases h; exact .str x
  | .list ds, _, h => by
    cases h with
    | lst hs ha => exact .lst (e.seq hs) (dpA_mono e ds _ ha)
  | .tuple ds, _, h => by
    cases h with
    | tup hs ha => exact .tup (same_sqT e hs) (dpA_mono e ds _ ha)
  | .dict _, _, h => by cases h
theorem dpA_mono {K : PySem.W.Frag} {H H' : Hp} (e : Same H H') : ∀ (ds : List PyData) (vs : List V), DpAll K H vs ds → DpAll K H' vs ds
  | [], _, h => by cases h; exact .nil
  | d :: ds, _, h => by
    cases h with
    | cons h1 h2 => exact .cons (dp_mono e d _ h1) (dpA_mono e ds _ h2)
end
mutual
def nolist : PyData → Bool
  | .list _ => false
  | .dict _ => false
  | .tuple xs => nolistA xs
  | _ => true
def nolistA : List PyData → Bool
  | [] => true
  | x :: xs => nolist x && nolistA xs
end
mutual
theorem dp_nolist {K : PySem.W.Frag} {H H' : Hp} (e : ∀ a xs, SqT K H a xs → SqT K H' a xs) : ∀ (d : PyData) (v : V), nolist d = true → Dp K H v d → Dp K H' v d
  | .none, _, _, h => by cases h; exact .non
  | .bool b, _, _, h => by cases h; exact .bl b
  | .int i, _, _, h => by cases h; exact .int i
  | .str x, _, _, h => by cases h; exact .str x
  | .list ds, _, n, h => by simp [nolist] at n
  | .tuple ds, _, n, h => by
    cases h with
    | tup hs ha => exact .tup (e _ _ hs) (dpA_nolist e ds _ (by simpa [nolist] using n) ha)
  | .dict _, _, _, h => by cases h
theorem dpA_nolist {K : PySem.W.Frag} {H H' : Hp} (e : ∀ a xs, SqT K H a xs → SqT K H' a xs) : ∀ (ds : List PyData) (vs : List V), nolistA ds = true → DpAll K H vs ds → DpAll K H' vs ds
  | [], _, _, h => by cases h; exact .nil
  | d :: ds, _, n, h => by
    cases h with
    | cons h1 h2 =>
      simp only [nolistA, Bool.and_eq_true] at n
      exact .cons (dp_nolist e d _ n.1 h1) (dpA_nolist e ds _ n.2 h2)
end
theorem dpA_len {K : PySem.W.Frag} {H : Hp} : ∀ {vs : List V} {ds : List PyData}, DpAll K H vs ds → vs.length = ds.length
  | _, [], h => by cases h; rfl
  | _, d :: ds, h => by
    cases h with
    | cons h1 h2 => simp [dpA_len h2]
theorem dpA_get {K : PySem.W.Frag} {H : Hp} : ∀ {vs : List V} {ds : List PyData} {i : Nat} {v : V}, DpAll K H vs ds → vs[i]? = some v → ∃ d, ds[i]? = some d ∧ Dp K H v d
  | _, [], _, _, h, e => by cases h; simp at e
  | _, d :: ds, i, v, h, e => by
    cases h with
    | cons h1 h2 =>
      cases i with
      | zero => simp at e; subst e; exact ⟨d, rfl, h1⟩
      | succ i => exact dpA_get (i := i) h2 (by simpa using e)
theorem dpA_get' {K : PySem.W.Frag} {H : Hp} {vs : List V} {ds : List PyData} {i : Nat} {d : PyData} (h : DpAll K H vs ds) (e : ds[i]? = some d) : ∃ v, vs[i]? = some v ∧ Dp K H v d := by
  have hl := dpA_len h
  have hi : i < vs.length := by rw [hl]; exact (List.getElem?_eq_some_iff.mp e).1
  obtain ⟨d', h1, h2⟩ := dpA_get (i := i) (v := vs[i]) h (List.getElem?_eq_getElem hi)
  rw [e] at h1; cases h1
  exact ⟨_, List.getElem?_eq_getElem hi, h2⟩
theorem dpA_app {K : PySem.W.Frag} {H : Hp} : ∀ {vs : List V} {ds : List PyData} {ws : List V} {es : List PyData}, DpAll K H vs ds → DpAll K H ws es → DpAll K H (vs ++ ws) (ds ++ es)
  | _, [], _, _, h, h' => by cases h; exact h'
  | _, d :: ds, _, _, h, h' => by
    cases h with
    | cons h1 h2 => exact .cons h1 (dpA_app h2 h')
theorem dpA_set {K : PySem.W.Frag} {H : Hp} {v : V} {d : PyData} (r : Dp K H v d) : ∀ {vs : List V} {ds : List PyData} (i : Nat), DpAll K H vs ds → DpAll K H (vs.set i v) (ds.set i d)
  | _, [], _, h => by cases h; exact .nil
  | _, e :: ds, i, h => by
    cases h with
    | cons h1 h2 =>
      cases i with
      | zero => exact .cons r h2
      | succ i => exact .cons h1 (dpA_set r i h2)
theorem dpA_take {K : PySem.W.Frag} {H : Hp} : ∀ {vs : List V} {ds : List PyData} (i : Nat), DpAll K H vs ds → DpAll K H (vs.take i) (ds.take i)
  | _, [], _, h => by cases h; simp; exact .nil
  | _, e :: ds, i, h => by
    cases h with
    | cons h1 h2 =>
      cases i with
      | zero => exact .nil
      | succ i => exact .cons h1 (dpA_take i h2)
theorem dpA_drop {K : PySem.W.Frag} {H : Hp} : ∀ {vs : List V} {ds : List PyData} (i : Nat), DpAll K H vs ds → DpAll K H (vs.drop i) (ds.drop i)
  | _, [], _, h => by cases h; simp; exact .nil
  | _, e :: ds, i, h => by
    cases h with
    | cons h1 h2 =>
      cases i with
      | zero => exact .cons h1 h2
      | succ i => exact dpA_drop i h2

/-! ### worlds: L the loose objects, N the others, F those that no slot owns -/
abbrev Ls := Addr → Bool
def tblB : HO → Bool
  | .tbl _ => true
  | _ => false
/-- without the loose ones and the tables of code objects -/
def hid (L : Ls) (H : Hp) : Hp := fun a => if L a = true then none else match H a with
  | some o => if tblB o = true then none else some o
  | none => none
def mutB : HO → Bool
  | .lst _ => true
  | .dK _ => true
  | .dT _ => true
  | .set _ _ => true
  | .ins _ _ _ => true
  | _ => false
/-- n: what stood at the frame's entry; k: what must stay -/
structure Gd where
  n : Hp
  k : Hp
/-- without what is mutable and known to G -/
def nw (G : Gd) (F : Hp) : Hp := fun a => match F a with
  | some o => if (mutB o && (G.n a).isSome) = true then none else some o
  | none => none
def Step (L : Ls) (H : Hp) (L' : Ls) (H' : Hp) : Prop := Same (hid L H) (hid L' H') ∧ ∀ a, L a = true → L' a = true
theorem Step.refl (L : Ls) (H : Hp) : Step L H L H := ⟨Same.refl _, fun _ h => h⟩
theorem Step.trans {L L1 L2 : Ls} {H H1 H2 : Hp} (a : Step L H L1 H1) (b : Step L1 H1 L2 H2) : Step L H L2 H2 := ⟨a.1.trans b.1, fun c h => b.2 c (a.2 c h)⟩
theorem hid_le (L : Ls) (H : Hp) : Same (hid L H) H := fun a o h => by
  unfold hid at h
  split at h
  · cases h
  · split at h
    · split at h
      · cases h
      · rename_i e _; rw [e]; exact h
    · cases h
theorem hid_of {L : Ls} {H : Hp} {a : Addr} {o : HO} (l : L a = false) (h : H a = some o) (n : tblB o = false) : hid L H a = some o := by
  unfold hid; rw [if_neg (by rw [l]; decide), h]; simp [n]
theorem hid_nl {L : Ls} {H : Hp} {a : Addr} {o : HO} (h : hid L H a = some o) : L a = false := by
  cases z : L a with
  | false => rfl
  | true => unfold hid at h; rw [if_pos z] at h; cases h
theorem hid_nt {L : Ls} {H : Hp} {a : Addr} {o : HO} (h : hid L H a = some o) : tblB o = false := by
  have e := hid_le L H a o h
  have l := hid_nl h
  unfold hid at h
  rw [if_neg (by rw [l]; decide), e] at h
  cases z : tblB o with
  | false => rfl
  | true => simp [z] at h
/-- what loose things are; what else stays true of the heap -/
structure Lk where
  ok : HO → Prop
  amb : Hp → Prop
  mono : ∀ H H' : Hp, (∀ b o, H b = some o → mutB o = false → H' b = some o) → amb H → amb H'
  chg : ∀ (H : Hp) (D : Addr) (φ : Heap → Prop) (o' : HO), amb H → H D = some (.ext φ) → (∃ h o es ep t, φ h ∧ h.get? D = some o ∧ o.data = Data.set es ep t) → amb (upd H D o')
def LkOk (LK : Lk) (L : Ls) (H : Hp) : Prop := (∀ a, L a = true → ∃ o, H a = some o ∧ LK.ok o) ∧ LK.amb H
theorem nw_le (G : Gd) (F : Hp) : Same (nw G F) F := fun a o h => by
  unfold nw at h
  split at h
  · split at h
    · cases h
    · rename_i o' e _
      rw [e]; exact h
  · cases h
theorem nw_mono {G : Gd} {F F' : Hp} (e : Same F F') : Same (nw G F) (nw G F') := fun a o h => by
  have h1 : F a = some o := nw_le G F a o h
  have h2 := e _ _ h1
  unfold nw at h ⊢
  rw [h1] at h; rw [h2]; exact h
theorem nw_imm {G : Gd} {F : Hp} {a : Addr} {o : HO} (h : F a = some o) (m : mutB o = false) : nw G F a = some o := by
  unfold nw; rw [h]; simp [m]
theorem nw_new {G : Gd} {F : Hp} {a : Addr} {o : HO} (h : F a = some o) (m : G.n a = none) : nw G F a = some o := by
  unfold nw; rw [h]; simp [m]
theorem nw_anti {G G' : Gd} {F : Hp} (e : ∀ a, G'.n a = none → G.n a = none) : Same (nw G' F) (nw G F) := fun a o h => by
  have h1 : F a = some o := nw_le G' F a o h
  unfold nw at h ⊢
  rw [h1] at h ⊢
  simp only at h ⊢
  cases m : mutB o with
  | false => simp
  | true =>
    cases q : G'.n a with
    | none => simp [e a q]
    | some z => simp [m, q] at h
structure Exn where
  cls : Str
  fs : List (Str × PyData)
/-- values as they stand in a slot, or come from an expression; fn: a function, with what stands for it; xn: a caught exception -/
inductive SV where
  | d (x : PyData) | own (xs : List PyData) | oK (kvs : List (Key × PyData)) | oT (kvs : List (List Key × PyData)) | rK (kvs : List (Key × PyData)) | rT (kvs : List (List Key × PyData)) | tok
  | tk (b : Addr) (xs : List PyData) | fn (kf : Hp) (f : Addr) | xn (a : Addr) (c : Value) (d : Option Addr) (x : Exn)
abbrev DS := List (Option SV)
def isOwn : SV → Bool
  | .own _ => true
  | .oK _ => true
  | .oT _ => true
  | .tk _ _ => true
  | _ => false
def KD {κ : Type} (K : PySem.W.Frag) (M : Hp) (vs : List (κ × V)) (ds : List (κ × PyData)) : Prop := Paired (fun (p : κ × V) (q : κ × PyData) => p.1 = q.1 ∧ Dp K M p.2 q.2) vs ds
theorem paired_imp {α β : Type} {F G : α → β → Prop} (f : ∀ a b, F a b → G a b) : ∀ {xs : List α} {ys : List β}, Paired F xs ys → Paired G xs ys
  | _, _, .nil => .nil
  | _, _, .cons r t => .cons (f _ _ r) (paired_imp f t)
theorem kd_mono {κ : Type} {K : PySem.W.Frag} {M M' : Hp} (e : Same M M') {vs : List (κ × V)} {ds : List (κ × PyData)} (h : KD K M vs ds) : KD K M' vs ds := paired_imp (fun _ _ z => ⟨z.1, dp_mono e _ _ z.2⟩) h
def ExOk (K : PySem.W.Frag) (M : Hp) (x : Exn) (c : Value) (d : Option Addr) : Prop :=
  c = .ref (He.ga K x.cls) ∧ ((d = none ∧ x.fs = []) ∨ ∃ dd fs, d = some dd ∧ M dd = some (.xd fs) ∧ ∀ p ∈ x.fs, ∃ v, fs.lookup p.1 = some v ∧ Dp K M v p.2)
theorem exOk_mono {K : PySem.W.Frag} {M M' : Hp} {x : Exn} {c : Value} {d : Option Addr} (e : Same M M') (h : ExOk K M x c d) : ExOk K M' x c d :=
  ⟨h.1, h.2.imp_right fun ⟨dd, fs, h1, h2, h3⟩ => ⟨dd, fs, h1, e _ _ h2, fun p hp => let ⟨v, a, b⟩ := h3 p hp; ⟨v, a, dp_mono e _ _ b⟩⟩⟩
/-- a value read in M -/
def SvOk (K : PySem.W.Frag) (M : Hp) (L : Ls) (v : V) : SV → Prop
  | .d x => Dp K M v x
  | .own xs => ∃ a vs, v = .ref a ∧ M a = some (.lst vs) ∧ DpAll K M vs xs
  | .oK kvs => ∃ a vs, v = .ref a ∧ M a = some (.dK vs) ∧ KD K M vs kvs
  | .oT kvs => ∃ a vs, v = .ref a ∧ M a = some (.dT vs) ∧ KD K M vs kvs
  | .rK kvs => ∃ a vs, v = .ref a ∧ M a = some (.dK vs) ∧ KD K M vs kvs
  | .rT kvs => ∃ a vs, v = .ref a ∧ M a = some (.dT vs) ∧ KD K M vs kvs
  | .tok => ∃ a, v = .ref a ∧ L a = true
  | .tk b xs => ∃ vs, v = .ref b ∧ M b = some (.lst vs) ∧ DpAll K M vs xs
  | .fn kf f => v = .ref f ∧ Same kf M
  | .xn a c d x => v = .ref a ∧ ExOk K M x c d
theorem svOk_mono {K : PySem.W.Frag} {M M' : Hp} {L L' : Ls} (e : Same M M') (l : ∀ a, L a = true → L' a = true) : ∀ {v : V} {sv : SV}, SvOk K M L v sv → SvOk K M' L' v sv
  | _, .d x, h => dp_mono e _ _ h
  | _, .own xs, ⟨a, vs, h1, h2, h3⟩ => ⟨a, vs, h1, e _ _ h2, dpA_mono e _ _ h3⟩
  | _, .oK xs, ⟨a, vs, h1, h2, h3⟩ => ⟨a, vs, h1, e _ _ h2, kd_mono e h3⟩
  | _, .oT xs, ⟨a, vs, h1, h2, h3⟩ => ⟨a, vs, h1, e _ _ h2, kd_mono e h3⟩
  | _, .rK xs, ⟨a, vs, h1, h2, h3⟩ => ⟨a, vs, h1, e _ _ h2, kd_mono e h3⟩
  | _, .rT xs, ⟨a, vs, h1, h2, h3⟩ => ⟨a, vs, h1, e _ _ h2, kd_mono e h3⟩
  | _, .tok, ⟨a, h1, h2⟩ => ⟨a, h1, l _ h2⟩
  | _, .tk b xs, ⟨vs, h1, h2, h3⟩ => ⟨vs, h1, e _ _ h2, dpA_mono e _ _ h3⟩
  | _, .fn kf f, ⟨h1, h2⟩ => ⟨h1, h2.trans e⟩
  | _, .xn _ _ _ _, ⟨h1, h2⟩ => ⟨h1, exOk_mono e h2⟩
/-- a value as a slot holds it: what a slot owns stands in N, all else in F -/
def SlotOk (K : PySem.W.Frag) (G : Gd) (F N : Hp) (L : Ls) (v : V) : SV → Prop
  | .own xs => ∃ a vs, v = .ref a ∧ N a = some (.lst vs) ∧ DpAll K (nw G F) vs xs
  | .oK kvs => ∃ a vs, v = .ref a ∧ N a = some (.dK vs) ∧ KD K (nw G F) vs kvs
  | .oT kvs => ∃ a vs, v = .ref a ∧ N a = some (.dT vs) ∧ KD K (nw G F) vs kvs
  | .tk b xs => ∃ vs, v = .ref b ∧ N b = some (.lst vs) ∧ DpAll K (nw G F) vs xs
  | sv => SvOk K F L v sv
def OwnA (δ : DS) (σ : L2.St) (a : Addr) : Prop := ∃ (i : Nat) (sv : SV), δ[i]? = some (some sv) ∧ isOwn sv = true ∧ σ[i]? = some (some (.ref a))
open Classical in
noncomputable def fz (L : Ls) (δ : DS) (σ : L2.St) (H : Hp) : Hp := fun a => if OwnA δ σ a then none else hid L H a
theorem fz_le (L : Ls) (δ : DS) (σ : L2.St) (H : Hp) : Same (fz L δ σ H) (hid L H) := fun a o h => by
  unfold fz at h
  split at h
  · cases h
  · exact h
theorem fz_of {L : Ls} {δ : DS} {σ : L2.St} {H : Hp} {a : Addr} {o : HO} (h : hid L H a = some o) (n : ¬ OwnA δ σ a) : fz L δ σ H a = some o := by
  unfold fz; rw [if_neg n]; exact h
theorem fz_own {L : Ls} {δ : DS} {σ : L2.St} {H : Hp} {a : Addr} (n : OwnA δ σ a) : fz L δ σ H a = none := by
  unfold fz; rw [if_pos n]
theorem fz_not {L : Ls} {δ : DS} {σ : L2.St} {H : Hp} {a : Addr} {o : HO} (h : fz L δ σ H a = some o) : ¬ OwnA δ σ a := fun n => by
  rw [fz_own n] at h; cases h
structure Rel (K : PySem.W.Frag) (LK : Lk) (G : Gd) (L : Ls) (δ : DS) (σ : L2.St) (H : Hp) : Prop where
  gn : Same G.n G.k
  g : Same G.k (fz L δ σ H)
  lk : LkOk LK L H
  sl : ∀ (i : Nat) (sv : SV), δ[i]? = some (some sv) → ∃ v, σ[i]? = some (some v) ∧ SlotOk K G (fz L δ σ H) (hid L H) L v sv
  ow : ∀ (i j : Nat) (a : Addr) (si sj : SV), i ≠ j → δ[i]? = some (some si) → δ[j]? = some (some sj) → isOwn si = true → isOwn sj = true → σ[i]? = some (some (.ref a)) → σ[j]? = some (some (.ref a)) → False
  ln : δ.length = σ.length
section
variable {K : PySem.W.Frag} {LK : Lk} {G : Gd} {L L' L0 : Ls} {δ : DS} {σ : L2.St} {H H' H0 : Hp}
theorem slotOk_mono {F F' N N' : Hp} (eF : Same F F') (eN : Same N N') (l : ∀ a, L a = true → L' a = true) : ∀ {v : V} {sv : SV}, SlotOk K G F N L v sv → SlotOk K G F' N' L' v sv
  | _, .own xs, ⟨a, vs, h1, h2, h3⟩ => ⟨a, vs, h1, eN _ _ h2, dpA_mono (nw_mono eF) _ _ h3⟩
  | _, .oK xs, ⟨a, vs, h1, h2, h3⟩ => ⟨a, vs, h1, eN _ _ h2, kd_mono (nw_mono eF) h3⟩
  | _, .oT xs, ⟨a, vs, h1, h2, h3⟩ => ⟨a, vs, h1, eN _ _ h2, kd_mono (nw_mono eF) h3⟩
  | _, .tk b xs, ⟨vs, h1, h2, h3⟩ => ⟨vs, h1, eN _ _ h2, dpA_mono (nw_mono eF) _ _ h3⟩
  | _, .d x, h => svOk_mono (sv := .d x) eF l h
  | _, .rK x, h => svOk_mono (sv := .rK x) eF l h
  | _, .rT x, h => svOk_mono (sv := .rT x) eF l h
  | _, .tok, h => svOk_mono (K := K) (sv := .tok) eF l h
  | _, .fn kf f, h => svOk_mono (K := K) (sv := .fn kf f) eF l h
  | _, .xn a c d x, h => svOk_mono (K := K) (sv := .xn a c d x) eF l h
theorem Rel.ownN (R : Rel K LK G L δ σ H) {a : Addr} (o : OwnA δ σ a) : ∃ u, hid L H a = some u ∧ mutB u = true := by
  obtain ⟨i, sv, h1, h2, h3⟩ := o
  obtain ⟨v, hv, s⟩ := R.sl i sv h1
  rw [h3] at hv
  have ev : V.ref a = v := Option.some.inj (Option.some.inj hv)
  subst ev
  cases sv with
  | own xs => obtain ⟨b, vs, e, n, _⟩ := s; cases e; exact ⟨_, n, rfl⟩
  | oK xs => obtain ⟨b, vs, e, n, _⟩ := s; cases e; exact ⟨_, n, rfl⟩
  | oT xs => obtain ⟨b, vs, e, n, _⟩ := s; cases e; exact ⟨_, n, rfl⟩
  | tk b xs => obtain ⟨vs, e, n, _⟩ := s; cases e; exact ⟨_, n, rfl⟩
  | _ => simp [isOwn] at h2
theorem fz_step (st : Step L H L' H') : Same (fz L δ σ H) (fz L' δ σ H') := fun a o h =>
  fz_of (st.1 _ _ (fz_le _ _ _ _ _ _ h)) (fz_not h)
theorem Rel.step (R : Rel K LK G L δ σ H) (st : Step L H L' H') (lk : LkOk LK L' H') : Rel K LK G L' δ σ H' :=
  ⟨R.gn, R.g.trans (fz_step st), lk, fun i sv h => by
    obtain ⟨v, h1, h2⟩ := R.sl i sv h
    exact ⟨v, h1, slotOk_mono (fz_step st) st.1 st.2 h2⟩, R.ow, R.ln⟩
theorem Rel.loose (R : Rel K LK G L δ σ H) {p : Addr} (h : H p = none) : L p = false := by
  cases q : L p with
  | false => rfl
  | true => obtain ⟨o, e, _⟩ := R.lk.1 p q; rw [h] at e; cases e
theorem same_upd {p : Addr} {o : HO} (h : H p = none) : Same H (upd H p o) := fun b u e => by
  rw [upd_ne (ne_of_none e h)]; exact e
theorem hid_upd {p : Addr} {o : HO} (h : L p = false) (nt : tblB o = false := by rfl) : hid L (upd H p o) = upd (hid L H) p o := by
  funext a
  unfold hid upd
  by_cases e : a = p
  · subst e; simp [h, nt]
  · simp [e]
theorem hid_none {p : Addr} (h : H p = none) : hid L H p = none := by
  unfold hid; split <;> simp [h]
theorem Rel.stepNew (R : Rel K LK G L δ σ H) {p : Addr} {o : HO} (h : H p = none) (nt : tblB o = false := by rfl) : Step L H L (upd H p o) := by
  refine ⟨?_, fun _ z => z⟩
  rw [hid_upd (R.loose h) nt]
  exact same_upd (hid_none h)
theorem LkOk.new (R : LkOk LK L H) {p : Addr} {o : HO} (h : H p = none) : LkOk LK L (upd H p o) :=
  ⟨fun a la => by
    obtain ⟨u, e, k⟩ := R.1 a la
    exact ⟨u, by rw [upd_ne (ne_of_none e h)]; exact e, k⟩, LK.mono _ _ (fun b o e _ => same_upd h _ _ e) R.2⟩
theorem Rel.new (R : Rel K LK G L δ σ H) {p : Addr} {o : HO} (h : H p = none) (nt : tblB o = false := by rfl) : Rel K LK G L δ σ (upd H p o) :=
  R.step (R.stepNew h nt) (R.lk.new h)
theorem rd_sqT {K : PySem.W.Frag} {M M' : Hp} {a : Addr} {xs : List V} (e : ∀ b u, mutB u = false → M b = some u → M' b = some u) (h : SqT K M a xs) : SqT K M' a xs := by
  rcases h with (h | ⟨o, h⟩) | h
  · exact .inl (.inl (e _ _ rfl h))
  · exact .inl (.inr ⟨o, e _ _ rfl h⟩)
  · exact .inr h
theorem Rel.immF (R : Rel K LK G L δ σ H) {b : Addr} {u : HO} (m : mutB u = false) (h : hid L H b = some u) : fz L δ σ H b = some u :=
  fz_of h fun o => by
    obtain ⟨z, e, k⟩ := R.ownN o
    rw [h] at e; cases e; rw [m] at k; cases k
theorem Rel.tupF (R : Rel K LK G L δ σ H) {a : Addr} {xs : List V} (h : SqT K (hid L H) a xs) : SqT K (fz L δ σ H) a xs := rd_sqT (fun _ _ m e => R.immF m e) h
theorem Rel.gF (R : Rel K LK G L δ σ H) : Same G.n (fz L δ σ H) := R.gn.trans R.g
theorem tup_nw {F : Hp} {a : Addr} {xs : List V} (h : SqT K F a xs) : SqT K (nw G F) a xs := rd_sqT (fun _ _ m e => nw_imm e m) h
/-- data without lists may be stored wherever it was read -/
theorem Rel.keep (R : Rel K LK G L δ σ H) {v : V} {x : PyData} (n : nolist x = true) (h : Dp K (hid L H) v x) : Dp K (nw G (fz L δ σ H)) v x :=
  dp_nolist (fun _ _ q => tup_nw (R.tupF q)) _ _ n h
theorem Rel.keepA (R : Rel K LK G L δ σ H) {v : List V} {x : List PyData} (n : nolistA x = true) (h : DpAll K (hid L H) v x) : DpAll K (nw G (fz L δ σ H)) v x :=
  dpA_nolist (fun _ _ q => tup_nw (R.tupF q)) _ _ n h
/-- a slot is filled; a list that it is to own must be new -/
theorem Rel.put (R : Rel K LK G L0 δ σ H0) (st : Step L0 H0 L H) (lk : LkOk LK L H) {i : Nat} {v : V} {sv : SV}
    (nu : isOwn sv = true → ∀ a, v = .ref a → hid L0 H0 a = none)
    (ok : SlotOk K G (fz L (δ.set i (some sv)) (σ.set i (some v)) H) (hid L H) L v sv) : Rel K LK G L (δ.set i (some sv)) (σ.set i (some v)) H := by
  have old : ∀ j s, δ[j]? = some (some s) → isOwn s = true → ∀ b, σ[j]? = some (some (V.ref b)) → hid L0 H0 b ≠ none := fun j s h1 h2 b h3 z => by
    obtain ⟨u, e, _⟩ := R.ownN ⟨j, s, h1, h2, h3⟩
    rw [z] at e; cases e
  have sub : Same (fz L0 δ σ H0) (fz L (δ.set i (some sv)) (σ.set i (some v)) H) := fun b o h => by
    have n0 := fz_not h
    have hN0 := fz_le _ _ _ _ _ _ h
    refine fz_of (st.1 _ _ hN0) ?_
    rintro ⟨j, s, h1, h2, h3⟩
    by_cases hj : j = i
    · subst hj
      have hl : j < δ.length := by
        have := (List.getElem?_eq_some_iff.mp h1).1
        simpa using this
      have hl' : j < σ.length := R.ln ▸ hl
      rw [List.getElem?_set_self hl] at h1
      rw [List.getElem?_set_self hl'] at h3
      cases h1; cases h3
      have := nu h2 b rfl
      rw [this] at hN0; cases hN0
    · rw [List.getElem?_set_ne (Ne.symm hj)] at h1 h3
      exact n0 ⟨j, s, h1, h2, h3⟩
  refine ⟨R.gn, R.g.trans sub, lk, fun j s h => ?_, fun j k b sj sk hjk h1 h2 o1 o2 e1 e2 => ?_, by simp [R.ln]⟩
  · by_cases hj : j = i
    · subst hj
      have hl : j < δ.length := by
        have := (List.getElem?_eq_some_iff.mp h).1
        simpa using this
      have hl' : j < σ.length := R.ln ▸ hl
      rw [List.getElem?_set_self hl] at h
      cases h
      exact ⟨v, List.getElem?_set_self hl', ok⟩
    · rw [List.getElem?_set_ne (Ne.symm hj)] at h ⊢
      obtain ⟨u, h1, h2⟩ := R.sl j s h
      exact ⟨u, h1, slotOk_mono sub st.1 st.2 h2⟩
  · by_cases hj : j = i
    · subst hj
      have hl : j < δ.length := by
        have := (List.getElem?_eq_some_iff.mp h1).1
        simpa using this
      have hl' : j < σ.length := R.ln ▸ hl
      rw [List.getElem?_set_self hl] at h1
      rw [List.getElem?_set_self hl'] at e1
      rw [List.getElem?_set_ne hjk] at h2 e2
      cases h1; cases e1
      exact old k sk h2 o2 b e2 (nu o1 b rfl)
    · rw [List.getElem?_set_ne (Ne.symm hj)] at h1 e1
      by_cases hk : k = i
      · subst hk
        have hl : k < δ.length := by
          have := (List.getElem?_eq_some_iff.mp h2).1
          simpa using this
        have hl' : k < σ.length := R.ln ▸ hl
        rw [List.getElem?_set_self hl] at h2
        rw [List.getElem?_set_self hl'] at e2
        cases h2; cases e2
        exact old j sj h1 o1 b e1 (nu o2 b rfl)
      · rw [List.getElem?_set_ne (Ne.symm hk)] at h2 e2
        exact R.ow j k b sj sk hjk h1 h2 o1 o2 e1 e2
end
end DL

namespace DL
open PySem PySem.Spec PyProof.Rows L2

/-! ### exceptions -/
abbrev TDe := DS → (SV → Prop) → (Exn → Prop) → Prop
abbrev TDt := DS → (Bool → Prop) → (Exn → Prop) → Prop
abbrev TDa := DS → (List SV → Prop) → (Exn → Prop) → Prop
structure Fl where
  o : Bool
  g : Bool
  f : Bool
abbrev fb : Fl := ⟨false, false, false⟩
abbrev fr : Fl := ⟨false, true, false⟩
abbrev fs : Fl := ⟨true, false, false⟩
abbrev fn : Fl := ⟨true, true, false⟩
abbrev ff : Fl := ⟨true, true, true⟩
def pk (fl : Fl) (G : Gd) (F N : Hp) : Hp := match fl.o, fl.g with
  | false, false => N
  | true, false => F
  | false, true => nw G N
  | true, true => nw G F
theorem pk_mono {fl : Fl} {G : Gd} {F N F' N' : Hp} (eF : Same F F') (eN : Same N N') : Same (pk fl G F N) (pk fl G F' N') := by
  unfold pk
  split
  · exact eN
  · exact eF
  · exact nw_mono eN
  · exact nw_mono eF
theorem pk_leN {fl : Fl} {G : Gd} {F N : Hp} (e : Same F N) : Same (pk fl G F N) N := by
  unfold pk
  split
  · exact Same.refl _
  · exact e
  · exact nw_le _ _
  · exact (nw_le _ _).trans e
theorem pk_n {fl : Fl} {G : Gd} {F N : Hp} (e : Same F N) : Same (nw G F) (pk fl G F N) := by
  unfold pk
  split
  · exact (nw_le _ _).trans e
  · exact nw_le _ _
  · exact nw_mono e
  · exact Same.refl _
/-- what comes out: N the others ahead, then F', N', L' -/
def Res (K : PySem.W.Frag) (G : Gd) (fl : Fl) (N F' N' : Hp) (L' : Ls) (v : V) (sv : SV) : Prop :=
  SvOk K (pk fl G F' N') L' v sv ∧ (fl.f = true → isOwn sv = true → ∀ a, v = .ref a → N a = none)
def ResA (K : PySem.W.Frag) (G : Gd) (fl : Fl) (N F' N' : Hp) (L' : Ls) (vs : List V) (svs : List SV) : Prop := Paired (fun v sv => Res K G fl N F' N' L' v sv) vs svs
def lift (K : PySem.W.Frag) (LK : Lk) (W : WX) (fl : Fl) (te : TDe) : TE := fun σ H Q =>
  ∃ (G : Gd) (L : Ls) (δ : DS) (R : SV → Prop) (RX : Exn → Prop), Rel K LK G L δ σ H ∧ te δ R RX ∧
    (∀ sv v L' H', R sv → Step L H L' H' → Rel K LK G L' δ σ H' → Res K G fl (hid L H) (fz L' δ σ H') (hid L' H') L' v sv → Q v H') ∧
    (∀ x c d L' H', RX x → Step L H L' H' → LkOk LK L' H' → ExOk K (nw G (hid L' H')) x c d → W c d σ H')
def liftT (K : PySem.W.Frag) (LK : Lk) (W : WX) (tt : TDt) : TT := fun σ H Q =>
  ∃ (G : Gd) (L : Ls) (δ : DS) (R : Bool → Prop) (RX : Exn → Prop), Rel K LK G L δ σ H ∧ tt δ R RX ∧
    (∀ b L' H', R b → Step L H L' H' → Rel K LK G L' δ σ H' → Q b H') ∧
    (∀ x c d L' H', RX x → Step L H L' H' → LkOk LK L' H' → ExOk K (nw G (hid L' H')) x c d → W c d σ H')
def liftA (K : PySem.W.Frag) (LK : Lk) (W : WX) (fl : Fl) (ta : TDa) : TA := fun σ H Q =>
  ∃ (G : Gd) (L : Ls) (δ : DS) (R : List SV → Prop) (RX : Exn → Prop), Rel K LK G L δ σ H ∧ ta δ R RX ∧
    (∀ svs vs L' H', R svs → Step L H L' H' → Rel K LK G L' δ σ H' → ResA K G fl (hid L H) (fz L' δ σ H') (hid L' H') L' vs svs → Q vs H') ∧
    (∀ x c d L' H', RX x → Step L H L' H' → LkOk LK L' H' → ExOk K (nw G (hid L' H')) x c d → W c d σ H')
def DX (X : Cx) (LK : Lk) (W : WX) (fl : Fl) (e : Expr) (te : TDe) : Prop := PE X e (lift X.K LK W fl te)
def DT (X : Cx) (LK : Lk) (W : WX) (e : Expr) (tt : TDt) : Prop := PT X e (liftT X.K LK W tt)
def DW (X : Cx) (LK : Lk) (W : WX) (e : Expr) (tt : TDt) : Prop := PW X e (liftT X.K LK W tt)
def DA (X : Cx) (LK : Lk) (W : WX) (fl : Fl) (es : List Expr) (ta : TDa) : Prop := PA X es (liftA X.K LK W fl ta)
structure EndsD where
  nx : DS → Prop
  rt : DS → SV → Prop
  xc : DS → Exn → Prop
  bk : DS → Prop := fun _ => False
  ct : DS → Prop := fun _ => False
abbrev TDs := DS → EndsD → Prop
structure EndsOk (K : PySem.W.Frag) (LK : Lk) (W : WX) (G : Gd) (L : Ls) (E : EndsD) (D : Ends) : Prop where
  nx : ∀ δ' L' σ' H', E.nx δ' → (∀ a, L a = true → L' a = true) → Rel K LK G L' δ' σ' H' → D.nx σ' H'
  bk : ∀ δ' L' σ' H', E.bk δ' → (∀ a, L a = true → L' a = true) → Rel K LK G L' δ' σ' H' → D.bk σ' H'
  ct : ∀ δ' L' σ' H', E.ct δ' → (∀ a, L a = true → L' a = true) → Rel K LK G L' δ' σ' H' → D.ct σ' H'
  rt : ∀ sv v δ' L' σ' H' gk, E.rt δ' sv → (∀ a, L a = true → L' a = true) → Rel K LK ⟨G.n, gk⟩ L' δ' σ' H' → SvOk K (nw G (hid L' H')) L' v sv → D.rt v H'
  xc : ∀ x c d δ' L' σ' H', E.xc δ' x → (∀ a, L a = true → L' a = true) → Rel K LK G L' δ' σ' H' → ExOk K (nw G (hid L' H')) x c d → W c d σ' H'
theorem EndsOk.mono {K : PySem.W.Frag} {LK : Lk} {W : WX} {G : Gd} {L L1 : Ls} {E : EndsD} {D : Ends} (h : EndsOk K LK W G L E D) (l : ∀ a, L a = true → L1 a = true) : EndsOk K LK W G L1 E D :=
  ⟨fun a b c d e f g => h.nx a b c d e (fun z y => f z (l z y)) g, fun a b c d e f g => h.bk a b c d e (fun z y => f z (l z y)) g, fun a b c d e f g => h.ct a b c d e (fun z y => f z (l z y)) g,
   fun a b c d e f g k r s t => h.rt a b c d e f g k (fun z y => r z (l z y)) s t, fun a b c d e f g k r s t => h.xc a b c d e f g k (fun z y => r z (l z y)) s t⟩
def liftS (K : PySem.W.Frag) (LK : Lk) (W : WX) (ts : TDs) : TS := fun D σ H =>
  ∃ (G : Gd) (L : Ls) (δ : DS) (E : EndsD), Rel K LK G L δ σ H ∧ ts δ E ∧ EndsOk K LK W G L E D
def D1 (X : Cx) (LK : Lk) (W : WX) (st : Stmt) (ts : TDs) : Prop := PS X st (liftS X.K LK W ts)
def Ds (X : Cx) (LK : Lk) (W : WX) (st : List Stmt) (ts : TDs) : Prop := PSs X st (liftS X.K LK W ts)

/-! ### weakening -/
theorem pe_imp {X : Cx} {e : Expr} {t t' : TE} (h : PE X e t) (i : ∀ σ H Q, t' σ H Q → t σ H Q) : PE X e t' := ⟨fun pins s σ H Q I q => h.run pins s σ H Q I (i σ H Q q)⟩
theorem pt_imp {X : Cx} {e : Expr} {t t' : TT} (h : PT X e t) (i : ∀ σ H Q, t' σ H Q → t σ H Q) : PT X e t' := ⟨fun pins s σ H Q I q => h.run pins s σ H Q I (i σ H Q q)⟩
theorem pw_imp {X : Cx} {e : Expr} {t t' : TT} (h : PW X e t) (i : ∀ σ H Q, t' σ H Q → t σ H Q) : PW X e t' := ⟨fun wh pins s σ H Q I q => h.run wh pins s σ H Q I (i σ H Q q)⟩
theorem pa_imp {X : Cx} {e : List Expr} {t t' : TA} (h : PA X e t) (i : ∀ σ H Q, t' σ H Q → t σ H Q) : PA X e t' := ⟨fun p pins s σ H Q I q => h.run p pins s σ H Q I (i σ H Q q)⟩
theorem ps_imp {X : Cx} {e : Stmt} {t t' : TS} (h : PS X e t) (i : ∀ D σ H, t' D σ H → t D σ H) : PS X e t' := ⟨fun pins s σ H Q I q => h.run pins s σ H Q I (i Q σ H q)⟩
theorem pss_imp {X : Cx} {e : List Stmt} {t t' : TS} (h : PSs X e t) (i : ∀ D σ H, t' D σ H → t D σ H) : PSs X e t' := ⟨fun pins s σ H Q I q => h.run pins s σ H Q I (i Q σ H q)⟩

section
variable {K : PySem.W.Frag} {LK : Lk} {W : WX} {G : Gd} {L L' L1 Lb : Ls} {δ : DS} {σ : L2.St} {H H' H1 H2 : Hp} {fl : Fl} {v : V} {sv : SV} {N : Hp}
theorem Res.step (r : Res K G fl N (fz L1 δ σ H1) (hid L1 H1) L1 v sv) (st : Step L1 H1 Lb H2) : Res K G fl N (fz Lb δ σ H2) (hid Lb H2) Lb v sv :=
  ⟨svOk_mono (pk_mono (fz_step st) st.1) st.2 r.1, r.2⟩
theorem ResA.step {vs : List V} {svs : List SV} (r : ResA K G fl N (fz L1 δ σ H1) (hid L1 H1) L1 vs svs) (st : Step L1 H1 Lb H2) : ResA K G fl N (fz Lb δ σ H2) (hid Lb H2) Lb vs svs :=
  paired_imp (fun _ _ z => z.step st) r
theorem Res.back (r : Res K G fl (hid L1 H1) (fz Lb δ σ H2) (hid Lb H2) Lb v sv) (st : Step L H L1 H1) : Res K G fl (hid L H) (fz Lb δ σ H2) (hid Lb H2) Lb v sv :=
  ⟨r.1, fun a b c d => st.1.free (r.2 a b c d)⟩
theorem ResA.back {vs : List V} {svs : List SV} (r : ResA K G fl (hid L1 H1) (fz Lb δ σ H2) (hid Lb H2) Lb vs svs) (st : Step L H L1 H1) : ResA K G fl (hid L H) (fz Lb δ σ H2) (hid Lb H2) Lb vs svs :=
  paired_imp (fun _ _ z => z.back st) r
/-- as read in all the others -/
theorem Res.b {F : Hp} {NN : Hp} (r : Res K G fl N F NN L' v sv) (e : Same F NN) : SvOk K NN L' v sv := svOk_mono (pk_leN e) (fun _ z => z) r.1
theorem Rel.lkOk (R : Rel K LK G L δ σ H) : LkOk LK L H := R.lk
end

/-! ### the value as data -/
def asD : SV → Option PyData
  | .d x => some x
  | .own xs => some (.list xs)
  | .tk _ xs => some (.list xs)
  | _ => none
theorem asD_ok {K : PySem.W.Frag} {M : Hp} {L : Ls} {v : V} {x : PyData} : ∀ {sv : SV}, asD sv = some x → SvOk K M L v sv → Dp K M v x
  | .d y, e, h => by simp [asD] at e; subst e; exact h
  | .own xs, e, h => by
    simp [asD] at e; subst e
    obtain ⟨a, vs, rfl, h1, h2⟩ := h
    exact .lst (SqL.of h1) h2
  | .oK _, e, _ => by simp [asD] at e
  | .oT _, e, _ => by simp [asD] at e
  | .rK _, e, _ => by simp [asD] at e
  | .rT _, e, _ => by simp [asD] at e
  | .tok, e, _ => by simp [asD] at e
  | .tk b xs, e, h => by
    simp [asD] at e; subst e
    obtain ⟨vs, rfl, h1, h2⟩ := h
    exact .lst (SqL.of h1) h2
  | .fn _ _, e, _ => by simp [asD] at e
  | .xn _ _ _ _, e, _ => by simp [asD] at e
def wD (sv : SV) (R : PyData → Prop) : Prop := match asD sv with
  | some x => R x
  | none => False
theorem wD_out {sv : SV} {R : PyData → Prop} (h : wD sv R) : ∃ x, asD sv = some x ∧ R x := by
  unfold wD at h
  split at h
  · rename_i x e; exact ⟨x, e, h⟩
  · exact h.elim
@[simp] theorem wD_d (x : PyData) (R : PyData → Prop) : wD (.d x) R = R x := rfl
@[simp] theorem wD_tk (b : Addr) (x : List PyData) (R : PyData → Prop) : wD (.tk b x) R = R (.list x) := rfl
@[simp] theorem wD_own (x : List PyData) (R : PyData → Prop) : wD (.own x) R = R (.list x) := rfl
@[simp] theorem wD_tok (R : PyData → Prop) : wD .tok R = False := rfl

/-! ### expressions -/
section
variable {X : Cx} {LK : Lk} {W : WX} {fl fa fb' : Fl} {e a b c : Expr} {pos : Pos} {ta tb tc : TDe}
/-- a value that needs nothing of the heap -/
theorem dx_pure {t : TE} {sv : SV} {v : V} (h : PE X e t) (ht : ∀ σ H Q, Q v H → t σ H Q) (hv : ∀ M L, SvOk X.K M L v sv) (ho : isOwn sv = false) : DX X LK W ff e (fun _ R _ => R sv) :=
  pe_imp h fun σ H Q ⟨G, L, δ, R, RX, rel, r, q, _⟩ => ht σ H Q (q sv v L H r (Step.refl _ _) rel ⟨hv _ _, fun _ z => by rw [ho] at z; cases z⟩)
@[simp] def eC (d : PyData) : TDe := fun _ R _ => R (.d d)
theorem dx_int {i j} : DX X LK W ff (.Constant (.int i) j pos) (eC (.int i)) := dx_pure pe_int (fun _ _ _ h => h) (fun _ _ => Dp.int i) rfl
theorem dx_bool {i j} : DX X LK W ff (.Constant (.bool i) j pos) (eC (.bool i)) := dx_pure pe_bl (fun _ _ _ h => h) (fun _ _ => Dp.bl i) rfl
theorem dx_none {j} : DX X LK W ff (.Constant .none j pos) (eC .none) := dx_pure pe_non (fun _ _ _ h => h) (fun _ _ => Dp.non) rfl
theorem dx_str {i j} : DX X LK W ff (.Constant (.str i) j pos) (eC (.str i)) := dx_pure pe_str (fun _ _ _ h => h) (fun _ _ => Dp.str i) rfl
/-- a constant of the module: an int, a text -/
theorem dx_glob {x : Str} {v : V} {u : Value} {d : PyData} (hg : Gl X x) (hm : X.mg x = some u) (r : RelV v u) (hv : ∀ M, Dp X.K M v d) (hd : (x == ("__debug__" : Str)) = false := by decide) : DX X LK W ff (.Name x pos) (eC d) :=
  dx_pure (pe_glob hg hm r hd) (fun _ _ _ h => h) (fun M _ => hv M) rfl
def svAt (δ : DS) (i : Nat) (R : SV → Prop) : Prop := match δ[i]? with
  | some (some sv) => R sv
  | _ => False
theorem svAt_out {δ : DS} {i : Nat} {R : SV → Prop} (h : svAt δ i R) : ∃ sv, δ[i]? = some (some sv) ∧ R sv := by
  unfold svAt at h
  split at h
  · rename_i sv e; exact ⟨sv, e, h⟩
  · exact h.elim
theorem slot_b {K : PySem.W.Frag} {G : Gd} {F N : Hp} {L : Ls} {v : V} (e : Same F N) : ∀ {sv : SV}, SlotOk K G F N L v sv → SvOk K N L v sv
  | .own _, ⟨a, vs, h1, h2, h3⟩ => ⟨a, vs, h1, h2, dpA_mono ((nw_le _ _).trans e) _ _ h3⟩
  | .oK _, ⟨a, vs, h1, h2, h3⟩ => ⟨a, vs, h1, h2, kd_mono ((nw_le _ _).trans e) h3⟩
  | .oT _, ⟨a, vs, h1, h2, h3⟩ => ⟨a, vs, h1, h2, kd_mono ((nw_le _ _).trans e) h3⟩
  | .tk _ _, ⟨vs, h1, h2, h3⟩ => ⟨vs, h1, h2, dpA_mono ((nw_le _ _).trans e) _ _ h3⟩
  | .d x, h => svOk_mono (sv := .d x) e (fun _ z => z) h
  | .rK x, h => svOk_mono (sv := .rK x) e (fun _ z => z) h
  | .rT x, h => svOk_mono (sv := .rT x) e (fun _ z => z) h
  | .tok, h => h
  | .fn kf f, h => svOk_mono (sv := .fn kf f) e (fun _ z => z) h
  | .xn a c d x, h => svOk_mono (sv := .xn a c d x) e (fun _ z => z) h
@[simp] def eV (i : Nat) : TDe := fun δ R _ => svAt δ i R
/-- a local name, read -/
theorem dx_var (i : Nat) {x : Str} (hN : X.N[i]? = some x := by rfl) (hv : Vis X.env.scope x := by first | exact Or.inl rfl | exact Or.inr (Or.inl rfl) | exact Or.inr (Or.inr rfl)) (hd : (x == ("__debug__" : Str)) = false := by decide) (hcd : (x == ("__classdict__" : Str)) = false := by decide) :
    DX X LK W fb (.Name x pos) (eV i) :=
  pe_imp (pe_var hN hv hd hcd) fun σ H Q ⟨G, L, δ, R, RX, rel, r, q, _⟩ => by
    obtain ⟨sv, h1, r⟩ := svAt_out r
    obtain ⟨v, h2, h3⟩ := rel.sl i sv h1
    exact ⟨v, h2, q sv v L H r (Step.refl _ _) rel ⟨slot_b (fz_le _ _ _ _) h3, fun z => nomatch z⟩⟩
/-- .. that holds data: it may be handed on -/
def isData : SV → Bool
  | .d _ => true
  | .rK _ => true
  | .rT _ => true
  | .tok => true
  | .fn _ _ => true
  | .xn _ _ _ _ => true
  | _ => false
@[simp] def eVD (i : Nat) : TDe := fun δ R _ => svAt δ i fun sv => isData sv = true ∧ R sv
theorem dx_varD (i : Nat) {x : Str} (hN : X.N[i]? = some x := by rfl) (hv : Vis X.env.scope x := by first | exact Or.inl rfl | exact Or.inr (Or.inl rfl) | exact Or.inr (Or.inr rfl)) (hd : (x == ("__debug__" : Str)) = false := by decide) (hcd : (x == ("__classdict__" : Str)) = false := by decide) :
    DX X LK W fs (.Name x pos) (eVD i) :=
  pe_imp (pe_var hN hv hd hcd) fun σ H Q ⟨G, L, δ, R, RX, rel, r, q, _⟩ => by
    obtain ⟨sv, h1, hd, r⟩ := svAt_out r
    obtain ⟨v, h2, h3⟩ := rel.sl i sv h1
    refine ⟨v, h2, q sv v L H r (Step.refl _ _) rel ⟨?_, fun z => nomatch z⟩⟩
    cases sv with
    | own _ => simp [isData] at hd
    | oK _ => simp [isData] at hd
    | oT _ => simp [isData] at hd
    | tk _ _ => simp [isData] at hd
    | d _ => exact h3
    | rK _ => exact h3
    | rT _ => exact h3
    | tok => exact h3
    | fn _ _ => exact h3
    | xn _ _ _ _ => exact h3
@[simp] def eVO (i : Nat) : TDe := fun δ R _ => svAt δ i fun sv => isOwn sv = true ∧ R sv
/-- .. that owns a list or a dict: it may be returned -/
theorem dx_varO (i : Nat) {x : Str} (hN : X.N[i]? = some x := by rfl) (hv : Vis X.env.scope x := by first | exact Or.inl rfl | exact Or.inr (Or.inl rfl) | exact Or.inr (Or.inr rfl)) (hd : (x == ("__debug__" : Str)) = false := by decide) (hcd : (x == ("__classdict__" : Str)) = false := by decide) :
    DX X LK W fr (.Name x pos) (eVO i) :=
  pe_imp (pe_var hN hv hd hcd) fun σ H Q ⟨G, L, δ, R, RX, rel, r, q, _⟩ => by
    obtain ⟨sv, h1, hd, r⟩ := svAt_out r
    obtain ⟨v, h2, h3⟩ := rel.sl i sv h1
    refine ⟨v, h2, q sv v L H r (Step.refl _ _) rel ⟨?_, fun z => nomatch z⟩⟩
    have gn : ∀ {a : Addr}, v = .ref a → G.n a = none := fun {a} ea => by
      subst ea
      cases q : G.n a with
      | none => rfl
      | some o => exact absurd ⟨i, sv, h1, hd, h2⟩ (fz_not (rel.gF _ _ q))
    cases sv with
    | own _ =>
      obtain ⟨a, vs, rfl, e2, e3⟩ := h3
      exact ⟨a, vs, rfl, nw_new e2 (gn rfl), dpA_mono (nw_mono (fz_le _ _ _ _)) _ _ e3⟩
    | oK _ =>
      obtain ⟨a, vs, rfl, e2, e3⟩ := h3
      exact ⟨a, vs, rfl, nw_new e2 (gn rfl), kd_mono (nw_mono (fz_le _ _ _ _)) e3⟩
    | oT _ =>
      obtain ⟨a, vs, rfl, e2, e3⟩ := h3
      exact ⟨a, vs, rfl, nw_new e2 (gn rfl), kd_mono (nw_mono (fz_le _ _ _ _)) e3⟩
    | tk _ _ =>
      obtain ⟨vs, rfl, e2, e3⟩ := h3
      exact ⟨vs, rfl, nw_new e2 (gn rfl), dpA_mono (nw_mono (fz_le _ _ _ _)) _ _ e3⟩
    | d _ => simp [isOwn] at hd
    | rK _ => simp [isOwn] at hd
    | rT _ => simp [isOwn] at hd
    | tok => simp [isOwn] at hd
    | fn _ _ => simp [isOwn] at hd
    | xn _ _ _ _ => simp [isOwn] at hd
/-- data without lists may be stored -/
def nolS : SV → Prop
  | .d x => nolist x = true
  | .tok => True
  | _ => False
@[simp] def eN (ta : TDe) : TDe := fun δ R RX => ta δ (fun sv => nolS sv ∧ R sv) RX
theorem dx_n (h : DX X LK W fl e ta) : DX X LK W ff e (eN ta) :=
  pe_imp h fun σ H Q ⟨G, L, δ, R, RX, rel, r, q, qx⟩ => ⟨G, L, δ, (fun sv => nolS sv ∧ R sv), RX, rel, r, fun sv v L' H' ⟨n, r⟩ st rel' res => by
    refine q sv v L' H' r st rel' ⟨?_, fun _ z => ?_⟩
    · cases sv with
      | d x => exact rel'.keep n (res.b (fz_le _ _ _ _))
      | tok => exact res.1
      | _ => exact n.elim
    · cases sv with
      | d x => cases z
      | tok => cases z
      | _ => exact n.elim, qx⟩
theorem res_weak {K : PySem.W.Frag} {G : Gd} {F N NN : Hp} {L : Ls} {v : V} {sv : SV} {fl fl' : Fl} (e : Same F N) (h1 : fl'.o = true → fl.o = true) (h2 : fl'.g = true → fl.g = true) (h3 : fl'.f = true → fl.f = true)
    (r : Res K G fl NN F N L v sv) : Res K G fl' NN F N L v sv := by
  refine ⟨svOk_mono ?_ (fun _ z => z) r.1, fun z => r.2 (h3 z)⟩
  obtain ⟨o, g, f⟩ := fl
  obtain ⟨o', g', f'⟩ := fl'
  unfold pk
  cases o' <;> cases g' <;> cases o <;> cases g <;> simp at h1 h2 <;> simp only <;>
    first | exact Same.refl _ | exact e | exact nw_le _ _ | exact (nw_le _ _).trans e | exact nw_mono e
theorem dx_w (fl' : Fl) (h : DX X LK W fl e ta) (h1 : fl'.o = true → fl.o = true := by decide) (h2 : fl'.g = true → fl.g = true := by decide) (h3 : fl'.f = true → fl.f = true := by decide) : DX X LK W fl' e ta :=
  pe_imp h fun σ H Q ⟨G, L, δ, R, RX, rel, r, q, qx⟩ => ⟨G, L, δ, R, RX, rel, r, fun sv v L' H' r st rel' res => q sv v L' H' r st rel' (res_weak (fz_le _ _ _ _) h1 h2 h3 res), qx⟩
/-- an operation on two values, in readings -/
def Adeq (X : Cx) (LK : Lk) (r : R2) (op : SV → SV → (SV → Prop) → Prop) : Prop := ∀ (G : Gd) (L : Ls) (δ : DS) (σ : L2.St) (H : Hp) (x y : V) (sx sy : SV) (R : SV → Prop) (Q : VK),
  Rel X.K LK G L δ σ H → SvOk X.K (hid L H) L x sx → SvOk X.K (hid L H) L y sy → op sx sy R →
  (∀ sv v H', R sv → Step L H L H' → Rel X.K LK G L δ σ H' → Res X.K G ff (hid L H) (fz L δ σ H') (hid L H') L v sv → Q v H') → r x y H Q
theorem tOp_dx {r : R2} {op : SV → SV → (SV → Prop) → Prop} (ad : Adeq X LK r op) {σ : L2.St} {H : Hp} {Q : VK} (h : lift X.K LK W ff (fun δ R RX => ta δ (fun x => tb δ (fun y => op x y R) RX) RX) σ H Q) : tOp r (lift X.K LK W fa ta) (lift X.K LK W fb' tb) σ H Q := by
  obtain ⟨G, L, δ, R, RX, rel, r, q, qx⟩ := h
  refine ⟨G, L, δ, _, RX, rel, r, fun sx x L1 H1 hx st1 rel1 res1 => ⟨G, L1, δ, _, RX, rel1, hx, fun sy y Lb H2 hy st2 rel2 res2 => ?_, fun x c d Lb H2 h st2 lk ex => qx x c d Lb H2 h (st1.trans st2) lk ex⟩, qx⟩
  exact ad G Lb δ σ H2 x y sx sy R Q rel2 ((res1.step st2).b (fz_le _ _ _ _)) (res2.b (fz_le _ _ _ _)) hy fun sv v H' h st3 rel3 res3 => q sv v Lb H' h (st1.trans (st2.trans st3)) rel3 (res3.back (st1.trans st2))
@[simp] def eB (op : SV → SV → (SV → Prop) → Prop) (ta tb : TDe) : TDe := fun δ R RX => ta δ (fun x => tb δ (fun y => op x y R) RX) RX
theorem dx_op {op : Operator} {r : R2} {ops : SV → SV → (SV → Prop) → Prop} (ho : OpR X (binaryOp op) r) (ad : Adeq X LK r ops) (ha : DX X LK W fa a ta) (hb : DX X LK W fb' b tb) :
    DX X LK W ff (.BinOp a op b pos) (eB ops ta tb) :=
  pe_imp (pe_op ho ha hb) fun _ _ _ h => tOp_dx ad h
theorem dx_cmp {op : CmpOp} {r : R2} {ops : SV → SV → (SV → Prop) → Prop} (ho : OpR X (compareOp op) r) (ad : Adeq X LK r ops) (ha : DX X LK W fa a ta) (hb : DX X LK W fb' b tb) (hm : behindInMarks op b = false) :
    DX X LK W ff (.Compare a [op] [b] pos) (eB ops ta tb) :=
  pe_imp (pe_cmpR ho ha hb hm) fun _ _ _ h => tOp_dx ad h
end
end DL

namespace DL
open PySem PySem.Spec PyProof.Rows L2

section
variable {X : Cx} {LK : Lk} {W : WX} {fl fa fb' : Fl} {e a b c : Expr} {pos : Pos} {ta tb tc : TDe}
/-! ### what operators do -/
abbrev BinD := PyData → PyData → (SV → Prop) → Prop
def opD (g : BinD) : SV → SV → (SV → Prop) → Prop := fun a b R => wD a fun x => wD b fun y => g x y R
theorem Adeq.or {r r' : R2} {g : SV → SV → (SV → Prop) → Prop} {h : SV → SV → (SV → Prop) → Prop} (a1 : Adeq X LK r g) (a2 : Adeq X LK r' h) :
    Adeq X LK (fun x y H Q => r x y H Q ∨ r' x y H Q) (fun a b R => g a b R ∨ h a b R) := fun G L δ σ H x y sx sy R Q rel hx hy h q => by
  rcases h with h | h
  · exact .inl (a1 G L δ σ H x y sx sy R Q rel hx hy h q)
  · exact .inr (a2 G L δ σ H x y sx sy R Q rel hx hy h q)
theorem Adeq.imp {r : R2} {g h : SV → SV → (SV → Prop) → Prop} (a1 : Adeq X LK r g) (i : ∀ a b R, h a b R → g a b R) : Adeq X LK r h := fun G L δ σ H x y sx sy R Q rel hx hy hh q => a1 G L δ σ H x y sx sy R Q rel hx hy (i _ _ _ hh) q
theorem res_sc {K : PySem.W.Frag} {G : Gd} {N F NN : Hp} {L : Ls} {fl : Fl} {v : V} {x : PyData} (h : ∀ M, Dp K M v x) : Res K G fl N F NN L v (.d x) := ⟨h _, fun _ z => nomatch z⟩
/-- ints to an int or a truth value -/
theorem adeq_int {C : Int → Int → Prop} {g : Int → Int → V} {gd : Int → Int → PyData} (hg : ∀ i j M, Dp X.K M (g i j) (gd i j)) :
    Adeq X LK (rI C g) (opD fun x y R => match x, y with | .int i, .int j => C i j ∧ R (.d (gd i j)) | _, _ => False) := fun G L δ σ H x y sx sy R Q rel hx hy h q => by
  obtain ⟨dx, ex, k⟩ := wD_out h
  clear h
  obtain ⟨dy, ey, h⟩ := wD_out k
  clear k
  have h1 := asD_ok ex hx
  have h2 := asD_ok ey hy
  cases h1 <;> cases h2 <;> first | exact h.elim | skip
  rename_i i j
  obtain ⟨hc, hr⟩ := h
  exact ⟨i, j, rfl, rfl, hc, q _ _ H hr (Step.refl _ _) rel (res_sc (hg i j))⟩
theorem rI0_of {g : Int → Int → V} {x y : V} {H : Hp} {Q : VK} (h : rI (fun _ _ => True) g x y H Q) : rI0 g x y H Q := by
  obtain ⟨i, j, e1, e2, _, q⟩ := h
  exact ⟨i, j, e1, e2, q⟩
theorem adeq_int0 {g : Int → Int → V} {gd : Int → Int → PyData} (hg : ∀ i j M, Dp X.K M (g i j) (gd i j)) :
    Adeq X LK (rI0 g) (opD fun x y R => match x, y with | .int i, .int j => R (.d (gd i j)) | _, _ => False) := fun G L δ σ H x y sx sy R Q rel hx hy h q => by
  obtain ⟨dx, ex, k⟩ := wD_out h
  clear h
  obtain ⟨dy, ey, h⟩ := wD_out k
  clear k
  have h1 := asD_ok ex hx
  have h2 := asD_ok ey hy
  cases h1 <;> cases h2 <;> first | exact h.elim | skip
  rename_i i j
  exact ⟨i, j, rfl, rfl, q _ _ H h (Step.refl _ _) rel (res_sc (hg i j))⟩
/-- texts -/
theorem adeq_addS : Adeq X LK (fun x y H Q => ∃ i j, x = .str i ∧ y = .str j ∧ i.length + j.length ≤ sizeLine ∧ Q (.str (i ++ j)) H)
    (opD fun x y R => match x, y with | .str i, .str j => i.length + j.length ≤ sizeLine ∧ R (.d (.str (i ++ j))) | _, _ => False) := fun G L δ σ H x y sx sy R Q rel hx hy h q => by
  obtain ⟨dx, ex, k⟩ := wD_out h
  clear h
  obtain ⟨dy, ey, h⟩ := wD_out k
  clear k
  have h1 := asD_ok ex hx
  have h2 := asD_ok ey hy
  cases h1 <;> cases h2 <;> first | exact h.elim | skip
  rename_i i j
  exact ⟨i, j, rfl, rfl, h.1, q _ _ H h.2 (Step.refl _ _) rel (res_sc fun _ => Dp.str _)⟩
/-- a new tracked thing that is data -/
theorem res_new {G : Gd} {L : Ls} {δ : DS} {σ : L2.St} {H : Hp} {p : Addr} {o : HO} {sv : SV} (rel : Rel X.K LK G L δ σ H) (hp : H p = none)
    (ok : SvOk X.K (nw G (fz L δ σ (upd H p o))) L (.ref p) sv) : Res X.K G ff (hid L H) (fz L δ σ (upd H p o)) (hid L (upd H p o)) L (.ref p) sv :=
  ⟨ok, fun _ _ a e => by cases e; exact hid_none hp⟩
theorem new_at {G : Gd} {L : Ls} {δ : DS} {σ : L2.St} {H : Hp} {p : Addr} {o : HO} (rel : Rel X.K LK G L δ σ H) (hp : H p = none) (nt : tblB o = false := by rfl) : nw G (fz L δ σ (upd H p o)) p = some o := by
  have hn : hid L (upd H p o) p = some o := by rw [hid_upd (rel.loose hp) nt]; exact upd_same
  have no : ¬ OwnA δ σ p := fun z => by
    obtain ⟨u, e, _⟩ := rel.ownN z
    rw [hid_none hp] at e; cases e
  refine nw_new (fz_of hn no) ?_
  cases q : G.n p with
  | none => rfl
  | some u =>
    have := fz_le _ _ _ _ _ _ (rel.gF _ _ q)
    rw [hid_none hp] at this; cases this
theorem new_mono {G : Gd} {L : Ls} {δ : DS} {σ : L2.St} {H : Hp} {p : Addr} {o : HO} (rel : Rel X.K LK G L δ σ H) (hp : H p = none) (nt : tblB o = false := by rfl) : Same (nw G (fz L δ σ H)) (nw G (fz L δ σ (upd H p o))) :=
  nw_mono (fz_step (rel.stepNew hp nt))
theorem dp_list {K : PySem.W.Frag} {H : Hp} {a : Addr} {ds : List PyData} (h : Dp K H (.ref a) (.list ds)) : ∃ xs, SqL K H a xs ∧ DpAll K H xs ds := by
  cases h with | lst h1 h2 => exact ⟨_, h1, h2⟩
theorem dp_tup {K : PySem.W.Frag} {H : Hp} {v : V} {ds : List PyData} (h : Dp K H v (.tuple ds)) : ∃ a xs, v = .ref a ∧ SqT K H a xs ∧ DpAll K H xs ds := by
  cases h with | tup h1 h2 => exact ⟨_, _, rfl, h1, h2⟩
theorem hid_sqT {L : Ls} {H : Hp} {K : PySem.W.Frag} {a : Addr} {xs : List V} (h : SqT K (hid L H) a xs) : SqT K H a xs := same_sqT (hid_le L H) h
theorem hid_sqL {L : Ls} {H : Hp} {K : PySem.W.Frag} {a : Addr} {xs : List V} (h : SqL K (hid L H) a xs) : SqL K H a xs := (hid_le L H).seq h
theorem hid_dp {L : Ls} {H : Hp} {K : PySem.W.Frag} {v : V} {x : PyData} (h : Dp K (hid L H) v x) : Dp K H v x := dp_mono (hid_le L H) _ _ h
/-- tuples -/
theorem adeq_addT : Adeq X LK (rCatA X.K) (opD fun x y R => match x, y with | .tuple i, .tuple j => nolistA i = true ∧ nolistA j = true ∧ i.length + j.length ≤ sizeLine ∧ R (.d (.tuple (i ++ j))) | _, _ => False) := fun G L δ σ H x y sx sy R Q rel hx hy h q => by
  obtain ⟨dx, ex, k⟩ := wD_out h
  clear h
  obtain ⟨dy, ey, h⟩ := wD_out k
  clear k
  have h1 := asD_ok ex hx
  have h2 := asD_ok ey hy
  cases dx <;> first | exact h.elim | skip
  cases dy <;> first | exact h.elim | skip
  rename_i i j
  obtain ⟨n1, n2, hl, hr⟩ := h
  obtain ⟨a, xs, rfl, s1, d1⟩ := dp_tup h1
  obtain ⟨b, ys, rfl, s2, d2⟩ := dp_tup h2
  refine ⟨a, b, xs, ys, rfl, rfl, hid_sqT s1, hid_sqT s2, by rw [dpA_len d1, dpA_len d2]; exact hl, fun e => ?_, fun _ e => ?_, fun _ _ p hp => ?_⟩
  · subst e
    cases i with
    | nil => exact q _ _ H hr (Step.refl _ _) rel ⟨rel.keep (by simpa [nolist] using n2) h2, fun _ z => nomatch z⟩
    | cons => cases d1
  · subst e
    cases j with
    | nil => exact q _ _ H hr (Step.refl _ _) rel ⟨by rw [List.append_nil]; exact rel.keep (by simpa [nolist] using n1) h1, fun _ z => nomatch z⟩
    | cons => cases d2
  · refine q _ _ _ hr (rel.stepNew hp) (rel.new hp) (res_new rel hp ?_)
    exact Dp.tup (SqT.of (new_at rel hp)) (dpA_app (dpA_mono (new_mono rel hp) _ _ (rel.keepA n1 d1)) (dpA_mono (new_mono rel hp) _ _ (rel.keepA n2 d2)))
/-- lists that the frame made -/
theorem adeq_addL : Adeq X LK rCat (fun a b R => match a, b with | .own i, .own j => nolistA i = true ∧ nolistA j = true ∧ i.length + j.length ≤ sizeLine ∧ R (.own (i ++ j)) | _, _ => False) := fun G L δ σ H x y sx sy R Q rel hx hy h q => by
  cases sx <;> first | exact h.elim | skip
  cases sy <;> first | exact h.elim | skip
  rename_i i j
  obtain ⟨n1, n2, hl, hr⟩ := h
  obtain ⟨a, xs, rfl, s1, d1⟩ := hx
  obtain ⟨b, ys, rfl, s2, d2⟩ := hy
  refine ⟨a, b, xs, ys, rfl, rfl, hid_le _ _ _ _ s1, hid_le _ _ _ _ s2, by rw [dpA_len d1, dpA_len d2]; exact hl, fun p hp => ?_⟩
  refine q _ _ _ hr (rel.stepNew hp) (rel.new hp) (res_new rel hp ⟨p, _, rfl, new_at rel hp, ?_⟩)
  exact dpA_app (dpA_mono (new_mono rel hp) _ _ (rel.keepA n1 d1)) (dpA_mono (new_mono rel hp) _ _ (rel.keepA n2 d2))
def addV (a b : SV) (R : SV → Prop) : Prop := match a, b with
  | .own i, .own j => nolistA i = true ∧ nolistA j = true ∧ i.length + j.length ≤ sizeLine ∧ R (.own (i ++ j))
  | .d (.int i), .d (.int j) => R (.d (.int (i + j)))
  | .d (.str i), .d (.str j) => i.length + j.length ≤ sizeLine ∧ R (.d (.str (i ++ j)))
  | .d (.tuple i), .d (.tuple j) => nolistA i = true ∧ nolistA j = true ∧ i.length + j.length ≤ sizeLine ∧ R (.d (.tuple (i ++ j)))
  | _, _ => False
@[simp] theorem addV_int (i j : Int) (R : SV → Prop) : addV (.d (.int i)) (.d (.int j)) R = R (.d (.int (i + j))) := rfl
@[simp] theorem addV_str (i j : Str) (R : SV → Prop) : addV (.d (.str i)) (.d (.str j)) R = (i.length + j.length ≤ sizeLine ∧ R (.d (.str (i ++ j)))) := rfl
@[simp] theorem addV_tup (i j : List PyData) (R : SV → Prop) : addV (.d (.tuple i)) (.d (.tuple j)) R = (nolistA i = true ∧ nolistA j = true ∧ i.length + j.length ≤ sizeLine ∧ R (.d (.tuple (i ++ j)))) := rfl
@[simp] theorem addV_own (i j : List PyData) (R : SV → Prop) : addV (.own i) (.own j) R = (nolistA i = true ∧ nolistA j = true ∧ i.length + j.length ≤ sizeLine ∧ R (.own (i ++ j))) := rfl
abbrev addR (K : PySem.W.Frag) : R2 := fun x y H Q => rI0 (fun i j => .int (i + j)) x y H Q ∨ ((∃ i j, x = .str i ∧ y = .str j ∧ i.length + j.length ≤ sizeLine ∧ Q (.str (i ++ j)) H) ∨ (rCatA K x y H Q ∨ rCat x y H Q))
theorem adeq_add : Adeq X LK (addR X.K) addV :=
  ((adeq_int0 (g := fun i j => .int (i + j)) (gd := fun i j => .int (i + j)) (fun _ _ _ => Dp.int _)).or (adeq_addS.or (adeq_addT.or adeq_addL))).imp fun a b R h => by
    unfold addV at h
    split at h
    · exact .inr (.inr (.inr h))
    · exact .inl h
    · exact .inr (.inl h)
    · exact .inr (.inr (.inl h))
    · exact h.elim
theorem dx_add (ha : DX X LK W fa a ta) (hb : DX X LK W fb' b tb) : DX X LK W ff (.BinOp a .Add b pos) (eB addV ta tb) :=
  dx_op (op_add.or (op_add_str.or (op_catA.or op_cat))) adeq_add ha hb
def subD : BinD := fun x y R => match x, y with | .int i, .int j => R (.d (.int (i - j))) | _, _ => False
theorem dx_sub (ha : DX X LK W fa a ta) (hb : DX X LK W fb' b tb) : DX X LK W ff (.BinOp a .Sub b pos) (eB (opD subD) ta tb) :=
  dx_op op_sub (adeq_int0 fun _ _ _ => Dp.int _) ha hb
def mulD : BinD := fun x y R => match x, y with | .int i, .int j => CMul i j ∧ R (.d (.int (i * j))) | _, _ => False
theorem dx_mul (ha : DX X LK W fa a ta) (hb : DX X LK W fb' b tb) : DX X LK W ff (.BinOp a .Mult b pos) (eB (opD mulD) ta tb) :=
  dx_op op_mul (adeq_int fun _ _ _ => Dp.int _) ha hb
def fdivD : BinD := fun x y R => match x, y with | .int i, .int j => CDiv i j ∧ R (.d (.int (i / j))) | _, _ => False
theorem dx_fdiv (ha : DX X LK W fa a ta) (hb : DX X LK W fb' b tb) : DX X LK W ff (.BinOp a .FloorDiv b pos) (eB (opD fdivD) ta tb) :=
  dx_op op_fdiv (adeq_int fun _ _ _ => Dp.int _) ha hb
def modD : BinD := fun x y R => match x, y with | .int i, .int j => 0 < j ∧ R (.d (.int (i % j))) | _, _ => False
theorem dx_mod (ha : DX X LK W fa a ta) (hb : DX X LK W fb' b tb) : DX X LK W ff (.BinOp a .Mod b pos) (eB (opD modD) ta tb) :=
  dx_op op_mod (adeq_int fun _ _ _ => Dp.int _) ha hb
@[simp] theorem opD_dd (g : BinD) (x y : PyData) (R : SV → Prop) : opD g (.d x) (.d y) R = g x y R := rfl
@[simp] theorem opD_od (g : BinD) (x : List PyData) (y : PyData) (R : SV → Prop) : opD g (.own x) (.d y) R = g (.list x) y R := rfl
@[simp] theorem opD_do (g : BinD) (x : PyData) (y : List PyData) (R : SV → Prop) : opD g (.d x) (.own y) R = g x (.list y) R := rfl
@[simp] theorem opD_oo (g : BinD) (x y : List PyData) (R : SV → Prop) : opD g (.own x) (.own y) R = g (.list x) (.list y) R := rfl
@[simp] theorem subD_int (i j : Int) (R : SV → Prop) : subD (.int i) (.int j) R = R (.d (.int (i - j))) := rfl
@[simp] theorem mulD_int (i j : Int) (R : SV → Prop) : mulD (.int i) (.int j) R = (CMul i j ∧ R (.d (.int (i * j)))) := rfl
@[simp] theorem fdivD_int (i j : Int) (R : SV → Prop) : fdivD (.int i) (.int j) R = (CDiv i j ∧ R (.d (.int (i / j)))) := rfl
@[simp] theorem modD_int (i j : Int) (R : SV → Prop) : modD (.int i) (.int j) R = (0 < j ∧ R (.d (.int (i % j)))) := rfl
/-! ### comparisons -/
def cmpI (p : Int → Int → Bool) : BinD := fun x y R => match x, y with | .int i, .int j => R (.d (.bool (p i j))) | _, _ => False
@[simp] theorem cmpI_int (p : Int → Int → Bool) (i j : Int) (R : SV → Prop) : cmpI p (.int i) (.int j) R = R (.d (.bool (p i j))) := rfl
theorem dx_lt (ha : DX X LK W fa a ta) (hb : DX X LK W fb' b tb) : DX X LK W ff (.Compare a [.Lt] [b] pos) (eB (opD (cmpI fun i j => decide (i < j))) ta tb) :=
  dx_cmp op_lt (adeq_int0 fun _ _ _ => Dp.bl _) ha hb (nomark _)
theorem dx_le (ha : DX X LK W fa a ta) (hb : DX X LK W fb' b tb) : DX X LK W ff (.Compare a [.LtE] [b] pos) (eB (opD (cmpI fun i j => decide (i ≤ j))) ta tb) :=
  dx_cmp op_le (adeq_int0 fun _ _ _ => Dp.bl _) ha hb (nomark _)
theorem dx_gt (ha : DX X LK W fa a ta) (hb : DX X LK W fb' b tb) : DX X LK W ff (.Compare a [.Gt] [b] pos) (eB (opD (cmpI fun i j => decide (j < i))) ta tb) :=
  dx_cmp op_gt (adeq_int0 fun _ _ _ => Dp.bl _) ha hb (nomark _)
theorem dx_ge (ha : DX X LK W fa a ta) (hb : DX X LK W fb' b tb) : DX X LK W ff (.Compare a [.GtE] [b] pos) (eB (opD (cmpI fun i j => decide (j ≤ i))) ta tb) :=
  dx_cmp op_ge (adeq_int0 fun _ _ _ => Dp.bl _) ha hb (nomark _)
/-- == : scalars of one kind at once, anything else where its form is told -/
def scalD : PyData → PyData → Bool
  | .none, .none => true | .none, .int _ => true | .int _, .none => true | .none, .bool _ => true | .bool _, .none => true | .none, .str _ => true | .str _, .none => true
  | .int _, .int _ => true | .bool _, .bool _ => true | .str _, .str _ => true
  | .int _, .str _ => true | .str _, .int _ => true | .bool _, .str _ => true | .str _, .bool _ => true
  | _, _ => false
def eqOk (x y : PyData) : Prop := scalD x y = true ∨ (SeqAt.shaped x = true ∧ SeqAt.shaped y = true)
def eqD : BinD := fun x y R => eqOk x y ∧ R (.d (.bool (PyData.eqv x y)))
def neD : BinD := fun x y R => eqOk x y ∧ R (.d (.bool (!PyData.eqv x y)))
theorem scal_of {K : PySem.W.Frag} {M M' : Hp} {v u : V} {x y : PyData} (h1 : Dp K M v x) (h2 : Dp K M' u y) (s : scalD x y = true) : scal v u = true ∧ decide (v = u) = PyData.eqv x y := by
  cases h1 <;> cases h2 <;> simp [scalD] at s <;> simp [scal, PyData.eqv] <;> rfl
theorem adeq_eq : Adeq X LK (fun x y H Q => rEq x y H Q ∨ rEqD X.K x y H Q) (opD eqD) := fun G L δ σ H x y sx sy R Q rel hx hy h q => by
  obtain ⟨dx, ex, k⟩ := wD_out h
  clear h
  obtain ⟨dy, ey, h⟩ := wD_out k
  clear k
  have h1 := asD_ok ex hx
  have h2 := asD_ok ey hy
  obtain ⟨o, r⟩ := h
  have fin := q _ (.bl (PyData.eqv dx dy)) H r (Step.refl _ _) rel (res_sc fun _ => Dp.bl _)
  rcases o with o | o
  · obtain ⟨s1, s2⟩ := scal_of h1 h2 o
    exact .inl ⟨s1, by rw [s2]; exact fin⟩
  · exact .inr ⟨dx, dy, hid_dp h1, hid_dp h2, o.1, o.2, fin⟩
theorem adeq_ne : Adeq X LK (fun x y H Q => rNe x y H Q ∨ rNeD X.K x y H Q) (opD neD) := fun G L δ σ H x y sx sy R Q rel hx hy h q => by
  obtain ⟨dx, ex, k⟩ := wD_out h
  clear h
  obtain ⟨dy, ey, h⟩ := wD_out k
  clear k
  have h1 := asD_ok ex hx
  have h2 := asD_ok ey hy
  obtain ⟨o, r⟩ := h
  have fin := q _ (.bl (!PyData.eqv dx dy)) H r (Step.refl _ _) rel (res_sc fun _ => Dp.bl _)
  rcases o with o | o
  · obtain ⟨s1, s2⟩ := scal_of h1 h2 o
    exact .inl ⟨s1, by rw [s2]; exact fin⟩
  · exact .inr ⟨dx, dy, hid_dp h1, hid_dp h2, o.1, o.2, fin⟩
theorem dx_eq (hu : X.A.units + 64 < cLine) (ha : DX X LK W fa a ta) (hb : DX X LK W fb' b tb) : DX X LK W ff (.Compare a [.Eq] [b] pos) (eB (opD eqD) ta tb) :=
  dx_cmp (op_eq.or (op_eqD hu)) adeq_eq ha hb (nomark _)
theorem dx_ne (hu : X.A.units + 64 < cLine) (ha : DX X LK W fa a ta) (hb : DX X LK W fb' b tb) : DX X LK W ff (.Compare a [.NotEq] [b] pos) (eB (opD neD) ta tb) :=
  dx_cmp (op_ne.or (op_neD hu)) adeq_ne ha hb (nomark _)
/-- is None, is True, is False; is not -/
def isNoneV (sv : SV) : Bool := match sv with | .d .none => true | _ => false
theorem isNone_of {K : PySem.W.Frag} {M : Hp} {L : Ls} {v : V} : ∀ {sv : SV}, SvOk K M L v sv → decide (v = .non) = isNoneV sv
  | .d x, h => by cases h <;> simp [isNoneV]
  | .own _, ⟨a, vs, e, _⟩ => by subst e; simp [isNoneV]
  | .oK _, ⟨a, vs, e, _⟩ => by subst e; simp [isNoneV]
  | .oT _, ⟨a, vs, e, _⟩ => by subst e; simp [isNoneV]
  | .rK _, ⟨a, vs, e, _⟩ => by subst e; simp [isNoneV]
  | .rT _, ⟨a, vs, e, _⟩ => by subst e; simp [isNoneV]
  | .tok, ⟨a, e, _⟩ => by subst e; simp [isNoneV]
  | .fn _ _, ⟨e, _⟩ => by subst e; simp [isNoneV]
  | .tk _ _, ⟨_, e, _⟩ => by subst e; simp [isNoneV]
  | .xn _ _ _ _, ⟨e, _⟩ => by subst e; simp [isNoneV]
@[simp] theorem isNoneV_none : isNoneV (.d .none) = true := rfl
@[simp] theorem isNoneV_int (i : Int) : isNoneV (.d (.int i)) = false := rfl
@[simp] theorem isNoneV_bool (i : Bool) : isNoneV (.d (.bool i)) = false := rfl
@[simp] theorem isNoneV_str (i : Str) : isNoneV (.d (.str i)) = false := rfl
@[simp] theorem isNoneV_tup (i : List PyData) : isNoneV (.d (.tuple i)) = false := rfl
@[simp] theorem isNoneV_own (i : List PyData) : isNoneV (.own i) = false := rfl
@[simp] def eIsN (ta : TDe) : TDe := fun δ R RX => ta δ (fun x => R (.d (.bool (isNoneV x)))) RX
theorem dx_isNone {j p2} (ha : DX X LK W fa a ta) : DX X LK W ff (.Compare a [.Is] [.Constant .none j p2] pos) (eIsN ta) :=
  pe_imp (pe_cmpR op_isN ha pe_non (nomark _)) fun σ H Q ⟨G, L, δ, R, RX, rel, r, q, qx⟩ =>
    ⟨G, L, δ, _, RX, rel, r, fun sv v L' H' h st rel' res => ⟨rfl, by rw [isNone_of res.1]; exact q _ _ L' H' h st rel' (res_sc fun _ => Dp.bl _)⟩, qx⟩
@[simp] def eNotN (ta : TDe) : TDe := fun δ R RX => ta δ (fun x => R (.d (.bool (!isNoneV x)))) RX
theorem dx_notNone {j p2} (ha : DX X LK W fa a ta) : DX X LK W ff (.Compare a [.IsNot] [.Constant .none j p2] pos) (eNotN ta) :=
  pe_imp (pe_cmpR op_notN ha pe_non (nomark _)) fun σ H Q ⟨G, L, δ, R, RX, rel, r, q, qx⟩ =>
    ⟨G, L, δ, _, RX, rel, r, fun sv v L' H' h st rel' res => ⟨rfl, by rw [isNone_of res.1]; exact q _ _ L' H' h st rel' (res_sc fun _ => Dp.bl _)⟩, qx⟩
def isBoolD (neg : Bool) : BinD := fun x y R => match x, y with | .bool i, .bool j => R (.d (.bool (if neg then !decide (i = j) else decide (i = j)))) | _, _ => False
@[simp] theorem isBoolD_f (i j : Bool) (R : SV → Prop) : isBoolD false (.bool i) (.bool j) R = R (.d (.bool (decide (i = j)))) := rfl
@[simp] theorem isBoolD_t (i j : Bool) (R : SV → Prop) : isBoolD true (.bool i) (.bool j) R = R (.d (.bool (!decide (i = j)))) := rfl
theorem dx_isBool (ha : DX X LK W fa a ta) (hb : DX X LK W fb' b tb) : DX X LK W ff (.Compare a [.Is] [b] pos) (eB (opD (isBoolD false)) ta tb) :=
  dx_cmp op_isBl (fun G L δ σ H x y sx sy R Q rel hx hy h q => by
    obtain ⟨dx, ex, k⟩ := wD_out h
    clear h
    obtain ⟨dy, ey, h⟩ := wD_out k
    clear k
    have h1 := asD_ok ex hx
    have h2 := asD_ok ey hy
    cases h1 <;> cases h2 <;> first | exact h.elim | skip
    exact ⟨_, _, rfl, rfl, q _ _ H h (Step.refl _ _) rel (res_sc fun _ => Dp.bl _)⟩) ha hb (nomark _)
theorem dx_notBool (ha : DX X LK W fa a ta) (hb : DX X LK W fb' b tb) : DX X LK W ff (.Compare a [.IsNot] [b] pos) (eB (opD (isBoolD true)) ta tb) :=
  dx_cmp op_notBl (fun G L δ σ H x y sx sy R Q rel hx hy h q => by
    obtain ⟨dx, ex, k⟩ := wD_out h
    clear h
    obtain ⟨dy, ey, h⟩ := wD_out k
    clear k
    have h1 := asD_ok ex hx
    have h2 := asD_ok ey hy
    cases h1 <;> cases h2 <;> first | exact h.elim | skip
    exact ⟨_, _, rfl, rfl, q _ _ H h (Step.refl _ _) rel (res_sc fun _ => Dp.bl _)⟩) ha hb (nomark _)
/-! ### in, not in -/
def flatD : PyData → Bool
  | .none => true | .bool _ => true | .int _ => true | .str _ => true | _ => false
def inOk (x : PyData) (ds : List PyData) : Prop := flatD x = true ∧ ds.all flatD = true
def inOkD (x : PyData) (ds : List PyData) : Prop := SeqAt.shaped x = true ∧ SeqAt.shaped (.list ds) = true
def anyEq (x : PyData) (ds : List PyData) : Bool := ds.any fun z => PyData.eqv z x
def inD (neg : Bool) : BinD := fun x y R => match x, y with
  | .str s, .str t => ∃ c : Nat, s = ⟨#[c]⟩ ∧ R (.d (.bool (if neg then !decide (c ∈ t.cps.toList) else decide (c ∈ t.cps.toList))))
  | x, .tuple ds => inOk x ds ∧ R (.d (.bool (if neg then !anyEq x ds else anyEq x ds)))
  | x, .list ds => (inOk x ds ∨ inOkD x ds) ∧ R (.d (.bool (if neg then !anyEq x ds else anyEq x ds)))
  | _, _ => False
theorem flat_of {K : PySem.W.Frag} {M : Hp} {v : V} {x : PyData} (h : Dp K M v x) (f : flatD x = true) : flatV v = true := by
  cases h <;> simp [flatD] at f <;> rfl
theorem flatA_of {K : PySem.W.Frag} {M : Hp} : ∀ {vs : List V} {ds : List PyData}, DpAll K M vs ds → ds.all flatD = true → vs.all flatV = true
  | _, [], h, _ => by cases h; rfl
  | _, d :: ds, h, f => by
    cases h with
    | cons h1 h2 =>
      rw [List.all_cons, Bool.and_eq_true] at f ⊢
      exact ⟨flat_of h1 f.1, flatA_of h2 f.2⟩
theorem eqV_of {K : PySem.W.Frag} {M M' : Hp} {v u : V} {x y : PyData} (h1 : Dp K M v x) (h2 : Dp K M' u y) (f1 : flatD x = true) (f2 : flatD y = true) : eqV v u = PyData.eqv x y := by
  cases h1 <;> cases h2 <;> simp [flatD] at f1 f2 <;> rfl
theorem inV_of {K : PySem.W.Frag} {M M' : Hp} {v : V} {x : PyData} (h : Dp K M v x) (f : flatD x = true) : ∀ {vs : List V} {ds : List PyData}, DpAll K M' vs ds → ds.all flatD = true → inV v vs = anyEq x ds
  | _, [], h', _ => by cases h'; rfl
  | _, d :: ds, h', f' => by
    cases h' with
    | cons h1 h2 =>
      rw [List.all_cons, Bool.and_eq_true] at f'
      have := inV_of h f h2 f'.2
      unfold inV anyEq at this ⊢
      rw [List.any_cons, List.any_cons, this, eqV_of h1 h f'.1 f]
theorem adeq_in (neg : Bool) (rD : R2) (rs : R2)
    (hs : ∀ (c : Nat) (z : Str) H Q, Q (.bl (if neg then !decide (c ∈ z.cps.toList) else decide (c ∈ z.cps.toList))) H → rs (.str ⟨#[c]⟩) (.str z) H Q)
    (hD : ∀ x y d ds H Q, Dp X.K H x d → Dp X.K H y (.list ds) → SeqAt.shaped d = true → SeqAt.shaped (.list ds) = true → Q (.bl (if neg then !anyEq d ds else anyEq d ds)) H → rD x y H Q) :
    Adeq X LK (fun x y H Q => rs x y H Q ∨ (rIn X.K neg x y H Q ∨ rD x y H Q)) (opD (inD neg)) := fun G L δ σ H x y sx sy R Q rel hx hy h q => by
  obtain ⟨dx, ex, k⟩ := wD_out h
  clear h
  obtain ⟨dy, ey, h⟩ := wD_out k
  clear k
  have h1 := asD_ok ex hx
  have h2 := asD_ok ey hy
  have tupC : ∀ ds, dy = .tuple ds → (inOk dx ds ∧ R (.d (.bool (if neg then !anyEq dx ds else anyEq dx ds)))) → rIn X.K neg x y H Q := fun ds e hh => by
    subst e
    obtain ⟨p, xs, rfl, s, da⟩ := dp_tup h2
    refine ⟨p, xs, rfl, .inr (hid_sqT s), flat_of h1 hh.1.1, flatA_of da hh.1.2, ?_⟩
    rw [inV_of h1 hh.1.1 da hh.1.2]
    exact q _ _ H hh.2 (Step.refl _ _) rel (res_sc fun _ => Dp.bl _)
  have lstC : ∀ ds, dy = .list ds → ((inOk dx ds ∨ inOkD dx ds) ∧ R (.d (.bool (if neg then !anyEq dx ds else anyEq dx ds)))) → (rIn X.K neg x y H Q ∨ rD x y H Q) := fun ds e hh => by
    subst e
    rcases hh.1 with o | o
    · cases h2 with
      | lst s da =>
        refine .inl ⟨_, _, rfl, .inl (hid_sqL s), flat_of h1 o.1, flatA_of da o.2, ?_⟩
        rw [inV_of h1 o.1 da o.2]
        exact q _ _ H hh.2 (Step.refl _ _) rel (res_sc fun _ => Dp.bl _)
    · exact .inr (hD x y dx ds H Q (hid_dp h1) (hid_dp h2) o.1 o.2 (q _ _ H hh.2 (Step.refl _ _) rel (res_sc fun _ => Dp.bl _)))
  unfold inD at h
  split at h
  · obtain ⟨c, rfl, h⟩ := h
    cases h1
    cases h2
    exact .inl (hs c _ H Q (q _ _ H h (Step.refl _ _) rel (res_sc fun _ => Dp.bl _)))
  · exact .inr (.inl (tupC _ rfl h))
  · exact .inr (lstC _ rfl h)
  · exact h.elim
theorem dx_in (hu : X.A.units + 65 < cLine) (ha : DX X LK W fa a ta) (hb : DX X LK W fb' b tb) (hm : behindInMarks .In b = false := by with_unfolding_all rfl) :
    DX X LK W ff (.Compare a [.In] [b] pos) (eB (opD (inD false)) ta tb) :=
  dx_cmp (op_in_sign.or (op_in_seq.or (op_inD hu))) (adeq_in false _ _ (fun c z H Q h => ⟨c, z, rfl, rfl, h⟩) (fun x y d ds H Q h1 h2 s1 s2 h => ⟨d, ds, h1, h2, s1, s2, h⟩)) ha hb hm
theorem dx_notIn (hu : X.A.units + 65 < cLine) (ha : DX X LK W fa a ta) (hb : DX X LK W fb' b tb) (hm : behindInMarks .NotIn b = false := by with_unfolding_all rfl) :
    DX X LK W ff (.Compare a [.NotIn] [b] pos) (eB (opD (inD true)) ta tb) :=
  dx_cmp (op_notIn_sign.or (op_notIn_seq.or (op_notInD hu))) (adeq_in true _ _ (fun c z H Q h => ⟨c, z, rfl, rfl, h⟩) (fun x y d ds H Q h1 h2 s1 s2 h => ⟨d, ds, h1, h2, s1, s2, h⟩)) ha hb hm
end
end DL

namespace DL
open PySem PySem.Spec PyProof.Rows L2

section
variable {X : Cx} {LK : Lk} {W : WX} {fl fa fb' : Fl} {e a b c : Expr} {es : List Expr} {pos : Pos} {ta tb tc : TDe} {tt tu : TDt} {ts : TDa}
/-! ### truth, not, and, or, if -/
def wB (sv : SV) (R : Bool → Prop) : Prop := match sv with
  | .d (.bool b) => R b
  | _ => False
@[simp] theorem wB_b (b : Bool) (R : Bool → Prop) : wB (.d (.bool b)) R = R b := rfl
theorem wB_out {K : PySem.W.Frag} {M : Hp} {L : Ls} {v : V} {sv : SV} {R : Bool → Prop} (h : wB sv R) (o : SvOk K M L v sv) : ∃ b, v = .bl b ∧ sv = .d (.bool b) ∧ R b := by
  unfold wB at h
  split at h
  · cases o; exact ⟨_, rfl, rfl, h⟩
  · exact h.elim
def wTru (sv : SV) (R : Bool → Prop) : Prop := match sv with
  | .d (.bool b) => R b
  | .d .none => R false
  | .d (.int i) => R (i != 0)
  | .d (.str s) => s.length ≤ sizeLine ∧ R ((s.length : Int) != 0)
  | .d (.tuple xs) => R (!xs.isEmpty)
  | .d (.list xs) => R (!xs.isEmpty)
  | .own xs => R (!xs.isEmpty)
  | _ => False
@[simp] theorem wTru_b (b : Bool) (R : Bool → Prop) : wTru (.d (.bool b)) R = R b := rfl
theorem emp_of {K : PySem.W.Frag} {M : Hp} {vs : List V} {ds : List PyData} (h : DpAll K M vs ds) : vs.isEmpty = ds.isEmpty := by cases h <;> rfl
theorem tru_of {L : Ls} {H : Hp} {v : V} {R : Bool → Prop} {Q : Bool → Hp → Prop} : ∀ {sv : SV}, wTru sv R → SvOk X.K (hid L H) L v sv → (∀ b, R b → Q b H) → ∃ k, TruV X.K v H k ∧ Q k H
  | .d (.bool b), h, o, q => by cases o; exact ⟨b, rfl, q _ h⟩
  | .d .none, h, o, q => by cases o; exact ⟨false, rfl, q _ h⟩
  | .d (.int i), h, o, q => by cases o; exact ⟨_, rfl, q _ h⟩
  | .d (.str s), h, o, q => by cases o; exact ⟨_, ⟨h.1, rfl⟩, q _ h.2⟩
  | .d (.tuple xs), h, o, q => by
    obtain ⟨a, vs, rfl, s, d⟩ := dp_tup o
    exact ⟨_, .inr (.inl ⟨vs, hid_sqT s, rfl⟩), by rw [emp_of d]; exact q _ h⟩
  | .d (.list xs), h, o, q => by
    cases o with | lst s d => exact ⟨_, .inl ⟨_, hid_sqL s, rfl⟩, by rw [emp_of d]; exact q _ h⟩
  | .own xs, h, ⟨a, vs, e, s, d⟩, q => by
    subst e
    exact ⟨_, .inl ⟨vs, hid_sqL (SqL.of s), rfl⟩, by rw [emp_of d]; exact q _ h⟩
  | .d (.dict _), h, _, _ => h.elim
  | .oK _, h, _, _ => h.elim
  | .oT _, h, _, _ => h.elim
  | .rK _, h, _, _ => h.elim
  | .rT _, h, _, _ => h.elim
  | .tok, h, _, _ => h.elim
  | .fn _ _, h, _, _ => h.elim
  | .tk _ _, h, _, _ => h.elim
  | .xn _ _ _ _, h, _, _ => h.elim
@[simp] def tOf (ta : TDe) : TDt := fun δ R RX => ta δ (fun sv => wTru sv R) RX
/-- a value's truth as a test -/
theorem dt_of (ha : DX X LK W fa a ta) (he : ∀ whole, isTrue a X.env whole = (do let v ← whole; standAt a.pos; holding [v] (truthy v)) := by intro _; rfl) : DT X LK W a (tOf ta) :=
  pt_imp (pt_truth ha he) fun σ H Q ⟨G, L, δ, R, RX, rel, r, q, qx⟩ =>
    ⟨G, L, δ, _, RX, rel, r, fun sv v L' H' h st rel' res => tru_of h (res.b (fz_le _ _ _ _)) fun b hb => q b L' H' hb st rel', qx⟩
/-- a comparison as a test -/
theorem tTest_dx {t : TE} {σ : L2.St} {H : Hp} {Q : Bool → Hp → Prop} (ht : ∀ σ H Q, lift X.K LK W ff ta σ H Q → t σ H Q) (h : liftT X.K LK W (fun δ R RX => ta δ (fun sv => wB sv R) RX) σ H Q) : tTest t σ H Q := by
  obtain ⟨G, L, δ, R, RX, rel, r, q, qx⟩ := h
  refine ht _ _ _ ⟨G, L, δ, _, RX, rel, r, fun sv v L' H' h st rel' res => ?_, qx⟩
  obtain ⟨b, rfl, rfl, hb⟩ := wB_out h res.1
  exact ⟨b, rfl, q b L' H' hb st rel'⟩
@[simp] def tNotD (tt : TDt) : TDt := fun δ R RX => tt δ (fun b => R (!b)) RX
theorem dt_not (h : DT X LK W a tt) : DT X LK W (.UnaryOp .Not a pos) (tNotD tt) :=
  pt_imp (pt_not h) fun σ H Q ⟨G, L, δ, R, RX, rel, r, q, qx⟩ => ⟨G, L, δ, _, RX, rel, r, fun b L' H' h st rel' => q _ L' H' h st rel', qx⟩
theorem dw_and1 (h : DT X LK W a tt) : DW X LK W (.BoolOp .And [a] pos) tt := pw_and1 h
theorem dw_or1 (h : DT X LK W a tt) : DW X LK W (.BoolOp .Or [a] pos) tt := pw_or1 h
@[simp] def tAndD (tt tu : TDt) : TDt := fun δ R RX => tt δ (fun x => if x = true then tu δ R RX else R false) RX
theorem dw_and (h : DT X LK W a tt) (h2 : DW X LK W (.BoolOp .And (b :: es) pos) tu) : DW X LK W (.BoolOp .And (a :: b :: es) pos) (tAndD tt tu) :=
  pw_imp (pw_and h h2) fun σ H Q ⟨G, L, δ, R, RX, rel, r, q, qx⟩ => ⟨G, L, δ, _, RX, rel, r, fun x L' H' hx st rel' => by
    cases x with
    | true =>
      rw [if_pos rfl] at hx ⊢
      exact ⟨G, L', δ, R, RX, rel', hx, fun y L2' H2 hy st2 rel2 => q y L2' H2 hy (st.trans st2) rel2, fun x c d L2' H2 h st2 lk ex => qx x c d L2' H2 h (st.trans st2) lk ex⟩
    | false =>
      rw [if_neg Bool.false_ne_true] at hx ⊢
      exact q false L' H' hx st rel', qx⟩
@[simp] def tOrD (tt tu : TDt) : TDt := fun δ R RX => tt δ (fun x => if x = true then R true else tu δ R RX) RX
theorem dw_or (h : DT X LK W a tt) (h2 : DW X LK W (.BoolOp .Or (b :: es) pos) tu) : DW X LK W (.BoolOp .Or (a :: b :: es) pos) (tOrD tt tu) :=
  pw_imp (pw_or h h2) fun σ H Q ⟨G, L, δ, R, RX, rel, r, q, qx⟩ => ⟨G, L, δ, _, RX, rel, r, fun x L' H' hx st rel' => by
    cases x with
    | true =>
      rw [if_pos rfl] at hx ⊢
      exact q true L' H' hx st rel'
    | false =>
      rw [if_neg Bool.false_ne_true] at hx ⊢
      exact ⟨G, L', δ, R, RX, rel', hx, fun y L2' H2 hy st2 rel2 => q y L2' H2 hy (st.trans st2) rel2, fun x c d L2' H2 h st2 lk ex => qx x c d L2' H2 h (st.trans st2) lk ex⟩, qx⟩
theorem dt_w (h : DW X LK W a tt) : DT X LK W a tt := h.pt
/-- and, or, not as values -/
theorem dx_one {op} (h : DX X LK W fl a ta) : DX X LK W fl (.BoolOp op [a] pos) ta := pe_one h
@[simp] def eAnd (ta tb : TDe) : TDe := fun δ R RX => ta δ (fun x => wB x fun c => if c = true then tb δ R RX else R (.d (.bool false))) RX
theorem dx_and (h : DX X LK W fa a ta) (h2 : DX X LK W ff (.BoolOp .And (b :: es) pos) tb) : DX X LK W ff (.BoolOp .And (a :: b :: es) pos) (eAnd ta tb) :=
  pe_imp (pe_and h h2) fun σ H Q ⟨G, L, δ, R, RX, rel, r, q, qx⟩ => ⟨G, L, δ, _, RX, rel, r, fun sv v L' H' hw st rel' res => by
    obtain ⟨x, rfl, rfl, hx⟩ := wB_out hw (res.b (fz_le _ _ _ _))
    refine ⟨x, rfl, ?_⟩
    cases x with
    | true =>
      rw [if_pos rfl] at hx ⊢
      exact ⟨G, L', δ, R, RX, rel', hx, fun y v2 L2' H2 hy st2 rel2 res2 => q y v2 L2' H2 hy (st.trans st2) rel2 (res2.back st), fun x c d L2' H2 h st2 lk ex => qx x c d L2' H2 h (st.trans st2) lk ex⟩
    | false =>
      rw [if_neg Bool.false_ne_true] at hx ⊢
      exact q _ _ L' H' hx st rel' (res_sc fun _ => Dp.bl _), qx⟩
@[simp] def eOr (ta tb : TDe) : TDe := fun δ R RX => ta δ (fun x => wB x fun c => if c = true then R (.d (.bool true)) else tb δ R RX) RX
theorem dx_or (h : DX X LK W fa a ta) (h2 : DX X LK W ff (.BoolOp .Or (b :: es) pos) tb) : DX X LK W ff (.BoolOp .Or (a :: b :: es) pos) (eOr ta tb) :=
  pe_imp (pe_or h h2) fun σ H Q ⟨G, L, δ, R, RX, rel, r, q, qx⟩ => ⟨G, L, δ, _, RX, rel, r, fun sv v L' H' hw st rel' res => by
    obtain ⟨x, rfl, rfl, hx⟩ := wB_out hw (res.b (fz_le _ _ _ _))
    refine ⟨x, rfl, ?_⟩
    cases x with
    | true =>
      rw [if_pos rfl] at hx ⊢
      exact q _ _ L' H' hx st rel' (res_sc fun _ => Dp.bl _)
    | false =>
      rw [if_neg Bool.false_ne_true] at hx ⊢
      exact ⟨G, L', δ, R, RX, rel', hx, fun y v2 L2' H2 hy st2 rel2 res2 => q y v2 L2' H2 hy (st.trans st2) rel2 (res2.back st), fun x c d L2' H2 h st2 lk ex => qx x c d L2' H2 h (st.trans st2) lk ex⟩, qx⟩
@[simp] def eNot (ta : TDe) : TDe := fun δ R RX => ta δ (fun x => wB x fun c => R (.d (.bool (!c)))) RX
theorem dx_not (h : DX X LK W fa a ta) : DX X LK W ff (.UnaryOp .Not a pos) (eNot ta) :=
  pe_imp (pe_not h) fun σ H Q ⟨G, L, δ, R, RX, rel, r, q, qx⟩ => ⟨G, L, δ, _, RX, rel, r, fun sv v L' H' hw st rel' res => by
    obtain ⟨x, rfl, rfl, hx⟩ := wB_out hw (res.b (fz_le _ _ _ _))
    exact ⟨x, rfl, q _ _ L' H' hx st rel' (res_sc fun _ => Dp.bl _)⟩, qx⟩
@[simp] def eNeg (ta : TDe) : TDe := fun δ R RX => ta δ (fun x => wD x fun d => match d with | .int i => R (.d (.int (-i))) | _ => False) RX
theorem dx_neg (h : DX X LK W fa a ta) : DX X LK W ff (.UnaryOp .USub a pos) (eNeg ta) :=
  pe_imp (pe_un un_neg h) fun σ H Q ⟨G, L, δ, R, RX, rel, r, q, qx⟩ => ⟨G, L, δ, _, RX, rel, r, fun sv v L' H' hw st rel' res => by
    obtain ⟨x, ex, hx⟩ := wD_out hw
    have h1 := asD_ok ex (res.b (fz_le _ _ _ _))
    cases x <;> first | exact hx.elim | skip
    cases h1
    exact ⟨_, rfl, q _ _ L' H' hx st rel' (res_sc fun _ => Dp.int _)⟩, qx⟩
@[simp] def eIf (tt : TDt) (ta tb : TDe) : TDe := fun δ R RX => tt δ (fun x => if x = true then ta δ R RX else tb δ R RX) RX
theorem dx_if (hc : DT X LK W c tt) (ha : DX X LK W fl a ta) (hb : DX X LK W fl b tb) : DX X LK W fl (.IfExp c a b pos) (eIf tt ta tb) :=
  pe_imp (pe_ifExp hc ha hb) fun σ H Q ⟨G, L, δ, R, RX, rel, r, q, qx⟩ => ⟨G, L, δ, _, RX, rel, r, fun x L' H' hx st rel' => by
    cases x with
    | true =>
      rw [if_pos rfl] at hx ⊢
      exact ⟨G, L', δ, R, RX, rel', hx, fun y v2 L2' H2 hy st2 rel2 res2 => q y v2 L2' H2 hy (st.trans st2) rel2 (res2.back st), fun x c d L2' H2 h st2 lk ex => qx x c d L2' H2 h (st.trans st2) lk ex⟩
    | false =>
      rw [if_neg Bool.false_ne_true] at hx ⊢
      exact ⟨G, L', δ, R, RX, rel', hx, fun y v2 L2' H2 hy st2 rel2 res2 => q y v2 L2' H2 hy (st.trans st2) rel2 (res2.back st), fun x c d L2' H2 h st2 lk ex => qx x c d L2' H2 h (st.trans st2) lk ex⟩, qx⟩
/-- a op b op c -/
theorem tChain_dx {r r' : R2} {g g' : SV → SV → (SV → Prop) → Prop} (ad : Adeq X LK r g) (ad' : Adeq X LK r' g') {σ : L2.St} {H : Hp} {Q : VK}
    (h : lift X.K LK W ff (fun δ R RX => ta δ (fun x => tb δ (fun y => g x y fun z => wB z fun k => if k = true then tc δ (fun u => g' y u R) RX else R (.d (.bool false))) RX) RX) σ H Q) : tChain r r' (lift X.K LK W fa ta) (lift X.K LK W fb' tb) (lift X.K LK W fl tc) σ H Q := by
  obtain ⟨G, L, δ, R, RX, rel, r, q, qx⟩ := h
  refine ⟨G, L, δ, _, RX, rel, r, fun sx x L1 H1 hx st1 rel1 res1 => ⟨G, L1, δ, _, RX, rel1, hx, fun sy y L2' H2 hy st2 rel2 res2 => ?_, fun x c d L2' H2 h st2 lk ex => qx x c d L2' H2 h (st1.trans st2) lk ex⟩, qx⟩
  refine ad G L2' δ σ H2 x y sx sy _ _ rel2 ((res1.step st2).b (fz_le _ _ _ _)) (res2.b (fz_le _ _ _ _)) hy fun sv v H3 hw st3 rel3 res3 => ?_
  obtain ⟨k, rfl, rfl, hk⟩ := wB_out hw res3.1
  refine ⟨k, rfl, ?_⟩
  cases k with
  | true =>
    rw [if_pos rfl] at hk ⊢
    refine ⟨G, L2', δ, _, RX, rel3, hk, fun sz z L4 H4 hz st4 rel4 res4 => ?_, fun x c d L4 H4 h st4 lk ex => qx x c d L4 H4 h (st1.trans (st2.trans (st3.trans st4))) lk ex⟩
    exact ad' G L4 δ σ H4 y z sy sz R Q rel4 ((res2.step (st3.trans st4)).b (fz_le _ _ _ _)) (res4.b (fz_le _ _ _ _)) hz fun sv v H5 h st5 rel5 res5 => q sv v L4 H5 h (st1.trans (st2.trans (st3.trans (st4.trans st5)))) rel5 (res5.back (st1.trans (st2.trans (st3.trans st4))))
  | false =>
    rw [if_neg Bool.false_ne_true] at hk ⊢
    exact q _ _ L2' H3 hk (st1.trans (st2.trans st3)) rel3 (res_sc fun _ => Dp.bl _)
theorem adeq_cmpI (g : Int → Int → Bool) : Adeq X LK (rI0 fun i j => .bl (g i j)) (opD (cmpI g)) := adeq_int0 (gd := fun i j => .bool (g i j)) fun _ _ _ => Dp.bl _
@[simp] def eChain (p p' : Int → Int → Bool) (ta tb tc : TDe) : TDe := fun δ R RX => ta δ (fun x => tb δ (fun y => opD (cmpI p) x y fun z => wB z fun k => if k = true then tc δ (fun u => opD (cmpI p') y u R) RX else R (.d (.bool false))) RX) RX
theorem dx_chain {op op' : CmpOp} {p p' : Int → Int → Bool} (ho : OpR X (compareOp op) (rI0 fun i j => .bl (p i j))) (ho' : OpR X (compareOp op') (rI0 fun i j => .bl (p' i j))) (ha : DX X LK W fa a ta) (hb : DX X LK W fb' b tb) (hc : DX X LK W fl c tc)
    (hm : lastMarks [op, op'] [b, c] = false := by with_unfolding_all rfl) :
    DX X LK W ff (.Compare a [op, op'] [b, c] pos) (eChain p p' ta tb tc) :=
  pe_imp (pe_chain ho ho' ha hb hc hm) fun _ _ _ h => tChain_dx (adeq_cmpI p) (adeq_cmpI p') h
@[simp] def tChainD (p p' : Int → Int → Bool) (ta tb tc : TDe) : TDt := fun δ R RX => ta δ (fun x => tb δ (fun y => opD (cmpI p) x y fun z => wB z fun k => if k = true then tc δ (fun u => opD (cmpI p') y u fun w => wB w R) RX else R false) RX) RX
theorem dt_chain {op op' : CmpOp} {p p' : Int → Int → Bool} (ho : OpR X (compareOp op) (rI0 fun i j => .bl (p i j))) (ho' : OpR X (compareOp op') (rI0 fun i j => .bl (p' i j))) (ha : DX X LK W fa a ta) (hb : DX X LK W fb' b tb) (hc : DX X LK W fl c tc)
    (hm : lastMarks [op, op'] [b, c] = false := by with_unfolding_all rfl) :
    DT X LK W (.Compare a [op, op'] [b, c] pos) (tChainD p p' ta tb tc) :=
  pt_imp (pt_chain ho ho' ha hb hc hm) fun _ _ _ h => tTest_dx (ta := fun δ R RX => ta δ (fun x => tb δ (fun y => opD (cmpI p) x y fun z => wB z fun k => if k = true then tc δ (fun u => opD (cmpI p') y u R) RX else R (.d (.bool false))) RX) RX) (fun _ _ _ h => tChain_dx (adeq_cmpI p) (adeq_cmpI p') h) h
/-! ### displays -/
@[simp] def aNil : TDa := fun _ R _ => R []
theorem da_nil : DA X LK W fl [] aNil :=
  pa_imp pa_nil fun σ H Q ⟨G, L, δ, R, RX, rel, r, q, qx⟩ => q [] [] L H r (Step.refl _ _) rel .nil
@[simp] def aCons (ta : TDe) (ts : TDa) : TDa := fun δ R RX => ta δ (fun x => ts δ (fun xs => R (x :: xs)) RX) RX
theorem da_cons (h : DX X LK W fl e ta) (h2 : DA X LK W fl es ts) (hs : starEach (e :: es) X.env = (false, eval e X.env) :: starEach es X.env := by rfl) : DA X LK W fl (e :: es) (aCons ta ts) :=
  pa_imp (pa_cons h h2 hs) fun σ H Q ⟨G, L, δ, R, RX, rel, r, q, qx⟩ => ⟨G, L, δ, _, RX, rel, r, fun sv v L' H' hx st rel' res =>
    ⟨G, L', δ, _, RX, rel', hx, fun svs vs L2' H2 hy st2 rel2 res2 => q _ _ L2' H2 hy (st.trans st2) rel2 (.cons (res.step st2) (res2.back st)), fun x c d L2' H2 h st2 lk ex => qx x c d L2' H2 h (st.trans st2) lk ex⟩, qx⟩
def asDs : List SV → Option (List PyData)
  | [] => some []
  | x :: xs => match asD x, asDs xs with
    | some d, some ds => some (d :: ds)
    | _, _ => none
def wDs (svs : List SV) (R : List PyData → Prop) : Prop := match asDs svs with
  | some ds => ds.length ≤ 64 ∧ R ds
  | none => False
theorem asDs_ok {K : PySem.W.Frag} {G : Gd} {N F NN : Hp} {L : Ls} : ∀ {svs : List SV} {ds : List PyData} {vs : List V}, asDs svs = some ds → ResA K G fl N F NN L vs svs → DpAll K (pk fl G F NN) vs ds
  | [], ds, _, e, .nil => by simp [asDs] at e; subst e; exact .nil
  | x :: xs, ds, _, e, .cons r t => by
    unfold asDs at e
    split at e
    · rename_i d ds' e1 e2
      cases e
      exact .cons (asD_ok e1 r.1) (asDs_ok e2 t)
    · cases e
@[simp] def eTup (ts : TDa) : TDe := fun δ R RX => ts δ (fun svs => wDs svs fun ds => R (.d (.tuple ds))) RX
theorem dx_tup {z} (h : DA X LK W ff es ts) : DX X LK W ff (.Tuple es z pos) (eTup ts) :=
  pe_imp (pe_tup h) fun σ H Q ⟨G, L, δ, R, RX, rel, r, q, qx⟩ => ⟨G, L, δ, _, RX, rel, r, fun svs vs L' H' hx st rel' res => by
    unfold wDs at hx
    split at hx
    · rename_i ds e
      have d := asDs_ok e res
      refine ⟨by rw [dpA_len d]; exact Nat.le_trans hx.1 (by decide), fun p hp => ?_⟩
      refine q _ _ L' _ hx.2 (st.trans (rel'.stepNew hp)) (rel'.new hp) (Res.back (res_new rel' hp ?_) st)
      exact Dp.tup (SqT.of (new_at rel' hp)) (dpA_mono (new_mono rel' hp) _ _ d)
    · exact hx.elim, qx⟩
@[simp] def eLst (ts : TDa) : TDe := fun δ R RX => ts δ (fun svs => wDs svs fun ds => R (.own ds)) RX
theorem dx_lst (h : DA X LK W ff es ts) : DX X LK W ff (.List es pos) (eLst ts) :=
  pe_imp (pe_lst h) fun σ H Q ⟨G, L, δ, R, RX, rel, r, q, qx⟩ => ⟨G, L, δ, _, RX, rel, r, fun svs vs L' H' hx st rel' res => by
    unfold wDs at hx
    split at hx
    · rename_i ds e
      have d := asDs_ok e res
      refine ⟨by rw [dpA_len d]; exact Nat.le_trans hx.1 (by decide), fun p hp => ?_⟩
      refine q _ _ L' _ hx.2 (st.trans (rel'.stepNew hp)) (rel'.new hp) (Res.back (res_new rel' hp ?_) st)
      exact ⟨p, _, rfl, new_at rel' hp, dpA_mono (new_mono rel' hp) _ _ d⟩
    · exact hx.elim, qx⟩
/-! ### subscripts -/
def ixV (x y : SV) (R : SV → Prop) : Prop := wD x fun d => wD y fun i => match d, i with
  | .list ds, .int i => (match atI ds i with | some z => R (.d z) | none => False)
  | .tuple ds, .int i => (match atI ds i with | some z => R (.d z) | none => False)
  | .str s, .int i => s.length ≤ sizeLine ∧ (match atI s.cps.toList i with | some z => R (.d (.str ⟨#[z]⟩)) | none => False)
  | _, _ => False
theorem atI_dp {K : PySem.W.Frag} {M : Hp} {vs : List V} {ds : List PyData} {i : Int} {z : PyData} (h : DpAll K M vs ds) (e : atI ds i = some z) : ∃ v, atI vs i = some v ∧ Dp K M v z := by
  unfold atI at e ⊢
  rw [dpA_len h]
  cases q : ixN ds.length i with
  | none => rw [q] at e; cases e
  | some j =>
    rw [q] at e
    exact dpA_get' h e
@[simp] def eIx (ta tb : TDe) : TDe := fun δ R RX => ta δ (fun x => tb δ (fun y => ixV x y R) RX) RX
theorem dx_ix (ha : DX X LK W fa a ta) (hb : DX X LK W fb' b tb) (hs : PlainIx b := by exact fun _ _ => rfl) : DX X LK W { fa with f := true } (.Subscript a b pos) (eIx ta tb) :=
  pe_imp (pe_ix ix_seq ha hb hs) fun σ H Q ⟨G, L, δ, R, RX, rel, r, q, qx⟩ => ⟨G, L, δ, _, RX, rel, r, fun sx x L1 H1 hx st1 rel1 res1 =>
    ⟨G, L1, δ, _, RX, rel1, hx, fun sy y L2' H2 hy st2 rel2 res2 => by
      obtain ⟨dx, ex, hy⟩ := wD_out hy
      obtain ⟨dy, ey, hz⟩ := wD_out hy
      have r1 := res1.step st2
      have h1 := asD_ok ex r1.1
      have h2 := asD_ok ey res2.1
      have le : Same (pk fa G (fz L2' δ σ H2) (hid L2' H2)) H2 := (pk_leN (fz_le _ _ _ _)).trans (hid_le _ _)
      cases dy <;> first | (cases dx <;> exact hz.elim) | skip
      cases h2
      rename_i i
      have fin : ∀ (z : PyData) (v : V), R (.d z) → Dp X.K (pk fa G (fz L2' δ σ H2) (hid L2' H2)) v z → Q v H2 := fun z v hr hd => q (.d z) v L2' H2 hr (st1.trans st2) rel2 ⟨by
        obtain ⟨o, g, f⟩ := fa
        exact hd, fun _ z => nomatch z⟩
      cases dx <;> first | exact hz.elim | skip
      · cases h1
        simp only at hz
        obtain ⟨hl, hz⟩ := hz
        split at hz
        · rename_i z ez
          exact .inr (.inr ⟨_, _, z, rfl, rfl, hl, ez, fin _ _ hz (Dp.str _)⟩)
        · exact hz.elim
      · simp only at hz
        split at hz
        · rename_i z ez
          cases h1 with
          | lst s d =>
            obtain ⟨v, ev, dv⟩ := atI_dp d ez
            exact .inl ⟨_, _, _, v, rfl, rfl, le.seq s, ev, fin _ _ hz dv⟩
        · exact hz.elim
      · simp only at hz
        split at hz
        · rename_i z ez
          obtain ⟨p, vs, rfl, s, d⟩ := dp_tup h1
          obtain ⟨v, ev, dv⟩ := atI_dp d ez
          exact .inr (.inl ⟨_, _, _, v, rfl, rfl, same_sqT le s, ev, fin _ _ hz dv⟩)
        · exact hz.elim,
     fun x c d L2' H2 h st2 lk ex => qx x c d L2' H2 h (st1.trans st2) lk ex⟩, qx⟩
end
end DL

namespace DL
open PySem PySem.Spec PyProof.Rows L2

/-! ### contracts of defs -/
abbrev Ctr := List SV → (SV → Prop) → (Exn → Prop) → Prop
def gd1 (L : Ls) (H : Hp) : Gd := ⟨hid L H, hid L H⟩
def spD (K : PySem.W.Frag) (LK : Lk) (n : Nat) (C : Ctr) : Sp := fun vs H Q E => ∃ (L : Ls) (args : List SV) (R : SV → Prop) (RX : Exn → Prop), vs.length = n ∧ LkOk LK L H ∧
  Paired (fun v sv => SvOk K (hid L H) L v sv ∧ isData sv = true) vs args ∧ C args R RX ∧
  (∀ sv v L' H', R sv → Step L H L' H' → LkOk LK L' H' → SvOk K (nw (gd1 L H) (hid L' H')) L' v sv → Q v H') ∧
  (∀ x c d L' H', RX x → Step L H L' H' → LkOk LK L' H' → ExOk K (nw (gd1 L H) (hid L' H')) x c d → E c d H')
def toArg : SV → SV
  | .own xs => .d (.list xs)
  | .oK kvs => .rK kvs
  | .oT kvs => .rT kvs
  | .tk _ xs => .d (.list xs)
  | sv => sv
@[simp] theorem toArg_d (x : PyData) : toArg (.d x) = .d x := rfl
@[simp] theorem toArg_own (x : List PyData) : toArg (.own x) = .d (.list x) := rfl
@[simp] theorem toArg_tok : toArg .tok = .tok := rfl
theorem toArg_ok {K : PySem.W.Frag} {M : Hp} {L : Ls} {v : V} : ∀ {sv : SV}, SvOk K M L v sv → SvOk K M L v (toArg sv) ∧ isData (toArg sv) = true
  | .d _, h => ⟨h, rfl⟩
  | .own _, ⟨a, vs, e, h1, h2⟩ => ⟨by subst e; exact Dp.lst (SqL.of h1) h2, rfl⟩
  | .tk _ _, ⟨vs, e, h1, h2⟩ => ⟨by subst e; exact Dp.lst (SqL.of h1) h2, rfl⟩
  | .oK _, h => ⟨h, rfl⟩
  | .oT _, h => ⟨h, rfl⟩
  | .rK _, h => ⟨h, rfl⟩
  | .rT _, h => ⟨h, rfl⟩
  | .tok, h => ⟨h, rfl⟩
  | .fn _ _, h => ⟨h, rfl⟩
  | .xn _ _ _ _, h => ⟨h, rfl⟩
theorem paired_map {α β γ : Type} {F : α → β → Prop} {G : α → γ → Prop} {g : β → γ} (f : ∀ a b, F a b → G a (g b)) : ∀ {xs : List α} {ys : List β}, Paired F xs ys → Paired G xs (ys.map g)
  | _, _, .nil => .nil
  | _, _, .cons r t => .cons (f _ _ r) (paired_map f t)
theorem paired_len {α β : Type} {F : α → β → Prop} : ∀ {xs : List α} {ys : List β}, Paired F xs ys → xs.length = ys.length
  | _, _, .nil => rfl
  | _, _, .cons r t => by simp [paired_len t]
theorem paired_get {α β : Type} {F : α → β → Prop} : ∀ {xs : List α} {ys : List β} {i : Nat} {y : β}, Paired F xs ys → ys[i]? = some y → ∃ x, xs[i]? = some x ∧ F x y
  | _, _, _, _, .nil, e => by simp at e
  | _, _, 0, _, .cons r t, e => by simp at e; subst e; exact ⟨_, rfl, r⟩
  | _, _, i + 1, _, .cons r t, e => by
    obtain ⟨x, h1, h2⟩ := paired_get (i := i) t (by simpa using e)
    exact ⟨x, by simpa using h1, h2⟩
section
variable {X : Cx} {LK : Lk} {W : WX} {fl fa fb' : Fl} {e a b c : Expr} {es : List Expr} {pos : Pos} {ta tb tc : TDe} {tt tu : TDt} {tas : TDa}
theorem new_res {K : PySem.W.Frag} {G : Gd} {L1 L2' : Ls} {δ : DS} {σ : L2.St} {H1 H2 : Hp} {v : V} {sv : SV} (rel : Rel K LK G L1 δ σ H1) (st : Step L1 H1 L2' H2) (o : SvOk K (nw (gd1 L1 H1) (hid L2' H2)) L2' v sv) :
    Res K G ff (hid L1 H1) (fz L2' δ σ H2) (hid L2' H2) L2' v sv := by
  have sub : Same (nw (gd1 L1 H1) (hid L2' H2)) (nw G (fz L2' δ σ H2)) := fun b u h => by
    have hN := nw_le _ _ _ _ h
    have new : mutB u = true → hid L1 H1 b = none := fun m => by
      unfold nw at h
      rw [hN] at h
      cases q : hid L1 H1 b with
      | none => rfl
      | some z => simp [gd1, q, m] at h
    have no : ¬ OwnA δ σ b := fun ow => by
      obtain ⟨z, e, m⟩ := rel.ownN ow
      have := st.1 _ _ e
      rw [hN] at this
      cases this
      rw [new m] at e; cases e
    have hF := fz_of hN no
    cases m : mutB u with
    | false => exact nw_imm hF m
    | true =>
      refine nw_new hF ?_
      cases q : G.n b with
      | none => rfl
      | some z =>
        have := fz_le _ _ _ _ _ _ (rel.gF _ _ q)
        rw [new m] at this; cases this
  refine ⟨svOk_mono sub (fun _ z => z) o, fun _ ow a ea => ?_⟩
  subst ea
  have nn : ∀ u, mutB u = true → nw (gd1 L1 H1) (hid L2' H2) a = some u → hid L1 H1 a = none := fun u m h => by
    have hN := nw_le _ _ _ _ h
    unfold nw at h
    rw [hN] at h
    cases q : hid L1 H1 a with
    | none => rfl
    | some z => simp [gd1, q, m] at h
  cases sv with
  | own _ => obtain ⟨_, _, e, h1, _⟩ := o; cases e; exact nn _ rfl h1
  | oK _ => obtain ⟨_, _, e, h1, _⟩ := o; cases e; exact nn _ rfl h1
  | oT _ => obtain ⟨_, _, e, h1, _⟩ := o; cases e; exact nn _ rfl h1
  | tk _ _ => obtain ⟨_, e, h1, _⟩ := o; cases e; exact nn _ rfl h1
  | _ => simp [isOwn] at ow
theorem exOk_call {K : PySem.W.Frag} {G : Gd} {L1 L2' : Ls} {δ : DS} {σ : L2.St} {H1 H2 : Hp} {x : Exn} {c : Value} {d : Option Addr} (rel : Rel K LK G L1 δ σ H1) (h : ExOk K (nw (gd1 L1 H1) (hid L2' H2)) x c d) : ExOk K (nw G (hid L2' H2)) x c d :=
  exOk_mono (nw_anti fun a q => by
    cases z : G.n a with
    | none => rfl
    | some o =>
      have := fz_le _ _ _ _ _ _ (rel.gF _ _ z)
      have q' : hid L1 H1 a = none := q
      rw [q'] at this; cases this) h
@[simp] def eCall (n : Nat) (C : Ctr) (tas : TDa) : TDe := fun δ R RX => tas δ (fun svs => svs.length = n ∧ C (svs.map toArg) R RX) RX
theorem dx_call {k : Nat} {f : Addr} {fd : FuncData} {ps : List Str} {C : Ctr} {n : Nat} {x : Str} {p : Pos} (F : FnOk X.prog X.w X.K X.mg X.base (L2.CX X.prog X.w) k f fd ps (spD X.K LK n C)) (tk : Takes X W) (hr : Room k X.A) (hg : Gl X x) (hm : X.mg x = some (.ref f))
    (hk : PySem.W.keepIn X.K (.ref f) = true) (hb : Binds X.K fd ps []) (ha : DA X LK W fb (e :: es) tas) (hdb : (x == ("__debug__" : Str)) = false := by decide) (he : starEach (e :: es) X.env = (false, eval e X.env) :: starEach es X.env := by rfl)
    (hpl : (backTo pos (starEach es X.env)).any (·.1) = false := by rfl) :
    DX X LK W ff (.Call (.Name x p) (e :: es) [] pos) (eCall n C tas) :=
  pe_imp (pe_callS F hr hg hm hk hb (fun σ => passAt tk σ) ha hdb he hpl) fun σ H Q ⟨G, L, δ, R, RX, rel, r, q, qx⟩ => ⟨G, L, δ, _, RX, rel, r, fun svs vs L1 H1 ⟨hl, hc⟩ st1 rel1 res1 =>
    ⟨L1, svs.map toArg, R, RX, (paired_len res1).trans hl, rel1.lk, paired_map (G := fun v sv => SvOk X.K (hid L1 H1) L1 v sv ∧ isData sv = true) (g := toArg) (fun v sv z => toArg_ok (z.b (fz_le _ _ _ _))) res1, hc,
      fun sv v L2' H2 hR st2 lk ok => q sv v L2' H2 hR (st1.trans st2) (rel1.step st2 lk) ((new_res rel1 st2 ok).back st1),
      fun x c d L2' H2 hx st2 lk ex => qx x c d L2' H2 hx (st1.trans st2) lk (exOk_call rel1 ex)⟩, qx⟩
/-! ### statements -/
@[simp] def sNil : TDs := fun δ E => E.nx δ
theorem ds_nil : Ds X LK W [] sNil := pss_imp pss_nil fun D σ H ⟨G, L, δ, E, rel, r, q⟩ => q.nx δ L σ H r (fun _ z => z) rel
variable {st : Stmt} {rest : List Stmt} {t u : TDs}
@[simp] def sSeq (t u : TDs) : TDs := fun δ E => t δ { E with nx := fun δ' => u δ' E }
theorem ds_cons (h1 : D1 X LK W st t) (h2 : Ds X LK W rest u) : Ds X LK W (st :: rest) (sSeq t u) :=
  pss_imp (pss_cons h1 h2) fun D σ H ⟨G, L, δ, E, rel, r, q⟩ => ⟨G, L, δ, _, rel, r,
    ⟨fun δ' L' σ' H' h l rel' => ⟨G, L', δ', E, rel', h, q.mono l⟩, q.bk, q.ct, q.rt, q.xc⟩⟩
theorem ds_one (h1 : D1 X LK W st t) : Ds X LK W [st] t := pss_one h1
theorem d_pass : D1 X LK W (.Pass pos) sNil := ps_imp ps_pass fun D σ H ⟨G, L, δ, E, rel, r, q⟩ => q.nx δ L σ H r (fun _ z => z) rel
@[simp] def sBrk : TDs := fun δ E => E.bk δ
theorem d_break : D1 X LK W (.Break pos) sBrk := ps_imp ps_break fun D σ H ⟨G, L, δ, E, rel, r, q⟩ => q.bk δ L σ H r (fun _ z => z) rel
@[simp] def sCnt : TDs := fun δ E => E.ct δ
theorem d_continue : D1 X LK W (.Continue pos) sCnt := ps_imp ps_continue fun D σ H ⟨G, L, δ, E, rel, r, q⟩ => q.ct δ L σ H r (fun _ z => z) rel
theorem xc_of {K : PySem.W.Frag} {G : Gd} {L L' : Ls} {δ : DS} {σ : L2.St} {H H' : Hp} {E : EndsD} {D : Ends} (q : EndsOk K LK W G L E D) (rel : Rel K LK G L δ σ H) (x : Exn) (c : Value) (d : Option Addr) (h : E.xc δ x) (st : Step L H L' H') (lk : LkOk LK L' H') (ex : ExOk K (nw G (hid L' H')) x c d) : W c d σ H' :=
  q.xc x c d δ L' σ H' h st.2 (rel.step st lk) ex
@[simp] def sExpr (ta : TDe) : TDs := fun δ E => ta δ (fun _ => E.nx δ) (E.xc δ)
theorem d_expr (he : DX X LK W fl e ta) (hs : swapsWith e none pos.line X.env = pure false := by rfl) : D1 X LK W (.Expr e pos) (sExpr ta) :=
  ps_imp (ps_expr he hs) fun D σ H ⟨G, L, δ, E, rel, r, q⟩ => ⟨G, L, δ, _, _, rel, r, fun sv v L' H' h st rel' _ => q.nx δ L' σ H' h st.2 rel', fun x c d L' H' h st lk ex => xc_of q rel x c d h st lk ex⟩
/-- what is returned: data without lists, or what is new -/
def retV (g : Bool) (sv : SV) (R : SV → Prop) : Prop := (g = true ∨ nolS sv) ∧ R sv
@[simp] def sRet (g : Bool) (ta : TDe) : TDs := fun δ E => ta δ (fun sv => retV g sv (E.rt δ)) (E.xc δ)
theorem d_ret (he : DX X LK W fl e ta) : D1 X LK W (.Return (some e) pos) (sRet fl.g ta) :=
  ps_imp (ps_ret he) fun D σ H ⟨G, L, δ, E, rel, r, q⟩ => ⟨G, L, δ, _, _, rel, r, fun sv v L' H' h st rel' res => by
    refine q.rt sv v δ L' σ H' G.k h.2 st.2 rel' ?_
    rcases h.1 with hg | hn
    · refine svOk_mono ?_ (fun _ z => z) res.1
      obtain ⟨o, g, f⟩ := fl
      obtain rfl : g = true := hg
      cases o
      · exact Same.refl _
      · exact nw_mono (fz_le _ _ _ _)
    · cases sv with
      | d x => exact dp_mono (nw_mono (fz_le _ _ _ _)) _ _ (rel'.keep hn (res.b (fz_le _ _ _ _)))
      | tok => exact res.1
      | _ => exact hn.elim, fun x c d L' H' h st lk ex => xc_of q rel x c d h st lk ex⟩
@[simp] def sRetN : TDs := fun δ E => E.rt δ (.d .none)
theorem d_retN : D1 X LK W (.Return none pos) sRetN :=
  ps_imp ps_retN fun D σ H ⟨G, L, δ, E, rel, r, q⟩ => q.rt _ _ δ L σ H G.k r (fun _ z => z) rel Dp.non
@[simp] def sIf (tt : TDt) (t u : TDs) : TDs := fun δ E => tt δ (fun b => if b = true then t δ E else u δ E) (E.xc δ)
theorem d_if {s1 s2 : List Stmt} (hc : DT X LK W c tt) (h1 : Ds X LK W s1 t) (h2 : Ds X LK W s2 u) : D1 X LK W (.If c s1 s2 pos) (sIf tt t u) :=
  ps_imp (ps_if hc h1 h2) fun D σ H ⟨G, L, δ, E, rel, r, q⟩ => ⟨G, L, δ, _, _, rel, r, fun b L' H' h st rel' => by
    cases b with
    | true => rw [if_pos rfl] at h ⊢; exact ⟨G, L', δ, E, rel', h, q.mono st.2⟩
    | false => rw [if_neg Bool.false_ne_true] at h ⊢; exact ⟨G, L', δ, E, rel', h, q.mono st.2⟩, fun x c d L' H' h st lk ex => xc_of q rel x c d h st lk ex⟩
/-! ### a slot is filled -/
theorem fz_set {K : PySem.W.Frag} {G : Gd} {L : Ls} {δ : DS} {σ : L2.St} {H : Hp} {i : Nat} {sv : SV} {v : V} (rel : Rel K LK G L δ σ H) (no : isOwn sv = false) : Same (fz L δ σ H) (fz L (δ.set i (some sv)) (σ.set i (some v)) H) := fun b o h => by
  refine fz_of (fz_le _ _ _ _ _ _ h) ?_
  rintro ⟨j, s, h1, h2, h3⟩
  by_cases hj : j = i
  · subst hj
    have hl : j < δ.length := by
      have := (List.getElem?_eq_some_iff.mp h1).1
      simpa using this
    rw [List.getElem?_set_self hl] at h1
    cases h1
    rw [no] at h2; cases h2
  · rw [List.getElem?_set_ne (Ne.symm hj)] at h1 h3
    exact fz_not h ⟨j, s, h1, h2, h3⟩
def nolK {κ : Type} (kvs : List (κ × PyData)) : Bool := kvs.all fun p => nolist p.2
def storeV (fl : Fl) (sv : SV) (k : SV → Prop) : Prop := match sv with
  | .d x => (fl.o = true ∨ nolist x = true) ∧ k (.d x)
  | .own xs => (fl.o = true ∧ fl.f = true) ∧ (if nolistA xs = true then k (.own xs) else k (.d (.list xs)))
  | .oK kvs => (fl.o = true ∧ fl.f = true) ∧ nolK kvs = true ∧ k (.oK kvs)
  | .oT kvs => (fl.o = true ∧ fl.f = true) ∧ nolK kvs = true ∧ k (.oT kvs)
  | .rK kvs => fl.o = true ∧ k (.rK kvs)
  | .rT kvs => fl.o = true ∧ k (.rT kvs)
  | .tok => k .tok
  | .fn kf f => fl.o = true ∧ k (.fn kf f)
  | .xn _ _ _ _ => False
  | .tk _ _ => False
@[simp] theorem storeV_ff (x : PyData) (k : SV → Prop) : storeV ff (.d x) k = k (.d x) := by simp [storeV]
@[simp] theorem storeV_fs (x : PyData) (k : SV → Prop) : storeV fs (.d x) k = k (.d x) := by simp [storeV]
@[simp] theorem storeV_own (x : List PyData) (k : SV → Prop) : storeV ff (.own x) k = (if nolistA x = true then k (.own x) else k (.d (.list x))) := by simp [storeV]
@[simp] theorem storeV_tok (fl : Fl) (k : SV → Prop) : storeV fl .tok k = k .tok := rfl
theorem pk_o {fl : Fl} {G : Gd} {F N : Hp} (h : fl.o = true) : Same (pk fl G F N) F := by
  obtain ⟨o, g, f⟩ := fl
  obtain rfl : o = true := h
  cases g
  · exact Same.refl _
  · exact nw_le _ _
theorem kd_nol {κ : Type} {K : PySem.W.Frag} {H H' : Hp} (e : ∀ a xs, SqT K H a xs → SqT K H' a xs) : ∀ {vs : List (κ × V)} {ds : List (κ × PyData)}, nolK ds = true → KD K H vs ds → KD K H' vs ds
  | _, _, _, .nil => .nil
  | _, _, n, .cons r t => by
    unfold nolK at n
    rw [List.all_cons, Bool.and_eq_true] at n
    exact .cons ⟨r.1, dp_nolist e _ _ n.1 r.2⟩ (kd_nol e n.2 t)
/-- what an expression gave is put into a slot -/
theorem put_res {K : PySem.W.Frag} {G : Gd} {L L' : Ls} {δ : DS} {σ : L2.St} {H H' : Hp} {i : Nat} {sv : SV} {v : V} {k : SV → Prop} {P : Prop} (rel : Rel K LK G L δ σ H) (st : Step L H L' H') (rel' : Rel K LK G L' δ σ H') (h : storeV fl sv k)
    (res : Res K G fl (hid L H) (fz L' δ σ H') (hid L' H') L' v sv) (fin : ∀ sv', k sv' → Rel K LK G L' (δ.set i (some sv')) (σ.set i (some v)) H' → P) : P := by
  have own : ∀ (s' : SV) (w : HO) (a : Addr), isOwn s' = true → v = .ref a → hid L' H' a = some w → mutB w = true → ∀ b xs, SqT K (fz L' δ σ H') b xs → SqT K (nw G (fz L' (δ.set i (some s')) (σ.set i (some v)) H')) b xs := fun s' w a os ea ew mw b xs q => by
    refine tup_nw (rd_sqT (fun c u m e => fz_of (fz_le _ _ _ _ _ _ e) ?_) q)
    rintro ⟨j, s, h1, h2, h3⟩
    by_cases hj : j = i
    · subst hj
      have hl : j < δ.length := by
        have := (List.getElem?_eq_some_iff.mp h1).1
        simpa using this
      have hl' : j < σ.length := rel.ln ▸ hl
      rw [List.getElem?_set_self hl'] at h3
      subst ea
      cases h3
      have := fz_le _ _ _ _ _ _ e
      rw [ew] at this; cases this; rw [mw] at m; cases m
    · rw [List.getElem?_set_ne (Ne.symm hj)] at h1 h3
      exact fz_not e ⟨j, s, h1, h2, h3⟩
  have data : ∀ s', isOwn s' = false → SvOk K (fz L' δ σ H') L' v s' → k s' → P := fun s' ns ok hk => by
    refine fin s' hk (rel'.put (Step.refl _ _) rel'.lk (fun z => by rw [ns] at z; cases z) ?_)
    have := svOk_mono (fz_set (i := i) (v := v) rel' ns) (fun _ z => z) ok
    cases s' <;> first | (simp [isOwn] at ns; done) | exact this
  cases sv with
  | d x =>
    obtain ⟨o, hk⟩ := h
    refine data (.d x) rfl ?_ hk
    rcases o with o | o
    · exact svOk_mono (pk_o o) (fun _ z => z) res.1
    · exact dp_mono (nw_le _ _) _ _ (rel'.keep o (res.b (fz_le _ _ _ _)))
  | rK x => exact data _ rfl (svOk_mono (pk_o h.1) (fun _ z => z) res.1) h.2
  | rT x => exact data _ rfl (svOk_mono (pk_o h.1) (fun _ z => z) res.1) h.2
  | tok => exact data .tok rfl (show SvOk K (fz L' δ σ H') L' v .tok from res.1) h
  | fn kf f => exact data _ rfl (svOk_mono (pk_o h.1) (fun _ z => z) res.1) h.2
  | xn _ _ _ _ => exact h.elim
  | tk _ _ => exact h.elim
  | own xs =>
    obtain ⟨⟨o, f⟩, hk⟩ := h
    have r1 := svOk_mono (pk_o o) (fun _ z => z) res.1
    obtain ⟨a, vs, ea, e1, e2⟩ := r1
    by_cases hn : nolistA xs = true
    · rw [if_pos hn] at hk
      refine fin _ hk (rel.put st rel'.lk (fun z b eb => res.2 f z b eb) ?_)
      exact ⟨a, vs, ea, fz_le _ _ _ _ _ _ e1, dpA_nolist (own (.own xs) _ a rfl ea (fz_le _ _ _ _ _ _ e1) rfl) _ _ hn e2⟩
    · rw [if_neg hn] at hk
      exact data (.d (.list xs)) rfl (by subst ea; exact Dp.lst (SqL.of e1) e2) hk
  | oK xs =>
    obtain ⟨⟨o, f⟩, hn, hk⟩ := h
    obtain ⟨a, vs, ea, e1, e2⟩ := svOk_mono (pk_o o) (fun _ z => z) res.1
    refine fin _ hk (rel.put st rel'.lk (fun z b eb => res.2 f z b eb) ?_)
    exact ⟨a, vs, ea, fz_le _ _ _ _ _ _ e1, kd_nol (own (.oK xs) _ a rfl ea (fz_le _ _ _ _ _ _ e1) rfl) hn e2⟩
  | oT xs =>
    obtain ⟨⟨o, f⟩, hn, hk⟩ := h
    obtain ⟨a, vs, ea, e1, e2⟩ := svOk_mono (pk_o o) (fun _ z => z) res.1
    refine fin _ hk (rel.put st rel'.lk (fun z b eb => res.2 f z b eb) ?_)
    exact ⟨a, vs, ea, fz_le _ _ _ _ _ _ e1, kd_nol (own (.oT xs) _ a rfl ea (fz_le _ _ _ _ _ _ e1) rfl) hn e2⟩
@[simp] def sSet (fl : Fl) (i : Nat) (ta : TDe) : TDs := fun δ E => ta δ (fun sv => storeV fl sv fun sv' => E.nx (δ.set i (some sv'))) (E.xc δ)
theorem d_set (i : Nat) {x : Str} {pos' : Pos} (hN : X.N.Nodup) (he : DX X LK W fl e ta) (hi : X.N[i]? = some x := by rfl) (hx : Loc X.env.scope x := by first | exact Or.inl rfl | exact Or.inr rfl) (hs : swapsWith e (some (.Name x pos')) pos.line X.env = pure false := by rfl)
    (hf : X.fn x = true ∨ X.env.scope.names.lookup x = some .local := by first | exact .inl rfl | exact .inr rfl) :
    D1 X LK W (.Assign [.Name x pos'] e pos) (sSet fl i ta) :=
  ps_imp (ps_set hN hi hx he hs hf) fun D σ H ⟨G, L, δ, E, rel, r, q⟩ => ⟨G, L, δ, _, _, rel, r, fun sv v L' H' h st rel' res =>
    put_res rel st rel' h res fun sv' hk rel2 => q.nx _ L' _ H' hk st.2 rel2, fun x c d L' H' h st lk ex => xc_of q rel x c d h st lk ex⟩
end
end DL

namespace DL
open PySem PySem.Spec PyProof.Rows L2

/-! ### a def keeps its contract -/
def startD (N : List Str) (args : List SV) : DS := args.map some ++ List.replicate (N.length - args.length) none
abbrev WD (E : XK) : WX := fun cls d _ H => E cls d H
abbrev cx (P : Program) (w : World) (K : PySem.W.Frag) (mg : Str → Option Value) (base : Heap) (N : List Str) (qual : Str) (scope : Scope) (f : Addr) (cd : Value) (A : Around) (outer : List Env) (s : Shared) (H : Hp) (E : XK) : Cx :=
  cxOf (L2.CX P w) P w K mg base N qual scope f cd A outer s H E
theorem startD_get {N : List Str} {args : List SV} {i : Nat} {sv : SV} (h : (startD N args)[i]? = some (some sv)) : args[i]? = some sv := by
  unfold startD at h
  by_cases hi : i < args.length
  · rw [List.getElem?_append_left (by simpa using hi), List.getElem?_map] at h
    cases q : args[i]? with
    | none => rw [q] at h; cases h
    | some y => rw [q] at h; cases h; rfl
  · rw [List.getElem?_append_right (by simpa using hi), List.getElem?_replicate] at h
    split at h <;> cases h
theorem start_get {N : List Str} {vs : List V} {i : Nat} {v : V} (h : vs[i]? = some v) : (L2.start N vs)[i]? = some (some v) := by
  unfold L2.start
  have hi := (List.getElem?_eq_some_iff.mp h).1
  rw [List.getElem?_append_left (by simpa using hi), List.getElem?_map, h]
  rfl
section
variable {P : Program} {w : World} {K : PySem.W.Frag} {mg : Str → Option Value} {base : Heap} {LK : Lk}
theorem rel_start {L : Ls} {N : List Str} {args : List SV} {vs : List V} {H : Hp} (lk : LkOk LK L H) (pa : Paired (fun v sv => SvOk K (hid L H) L v sv ∧ isData sv = true) vs args) : Rel K LK (gd1 L H) L (startD N args) (L2.start N vs) H := by
  have none_own : ∀ a, ¬ OwnA (startD N args) (L2.start N vs) a := by
    rintro a ⟨i, sv, h1, h2, _⟩
    obtain ⟨v, _, _, hd⟩ := paired_get pa (startD_get h1)
    cases sv <;> simp [isOwn] at h2 <;> simp [isData] at hd
  have same : Same (hid L H) (fz L (startD N args) (L2.start N vs) H) := fun a o h => fz_of h (none_own a)
  refine ⟨Same.refl _, same, lk, fun i sv h => ?_, fun i j a si sj _ h1 h2 o1 _ _ _ => ?_, ?_⟩
  · obtain ⟨v, hv, ok, hd⟩ := paired_get pa (startD_get h)
    refine ⟨v, start_get hv, ?_⟩
    have := svOk_mono same (fun _ z => z) ok
    cases sv <;> first | (simp [isData] at hd; done) | exact this
  · obtain ⟨v, _, _, hd⟩ := paired_get pa (startD_get h1)
    cases si <;> simp [isOwn] at o1 <;> simp [isData] at hd
  · unfold startD L2.start
    have := paired_len pa
    simp [this]
theorem fn_ok {x qual : Str} {params : Arguments} {body : List Stmt} {scope : Scope} {dvs : List V} {kws : List (Str × V)} {f : Addr} {fd : FuncData} {N ps : List Str} {k : Nat} {C : Ctr} {ts : TDs} (F : FunD K x qual params body scope dvs kws f fd) (S : FnScope N ps scope)
    (hb : ∀ (cdv : Value) (A : Around) (outer : List Env) (s : Shared) (H : Hp) (E : XK), Room k (A.deeper (envOfC qual scope s.heap.objs.size f cdv)) → Ds (cx P w K mg base N qual scope f cdv A outer s H E) LK (WD E) body ts)
    (hc : ∀ args R RX, args.length = ps.length → C args R RX → ts (startD N args) { nx := fun _ => R (.d .none), rt := fun _ => R, xc := fun _ => RX }) : FnOk P w K mg base (L2.CX P w) (k + 1) f fd ps (spD K LK ps.length C) := by
  refine F.ok S (fun vs H Q E ⟨_, _, _, _, h, _⟩ => h) fun cdv A outer s H vs Q E hr h => ⟨_, hb cdv A outer s H E hr, ?_⟩
  obtain ⟨L, args, R, RX, hl, lk, pa, hC, q, qx⟩ := h
  refine ⟨gd1 L H, L, startD N args, _, rel_start lk pa, hc args R RX ((paired_len pa).symm.trans hl) hC, ⟨fun δ' L' σ' H' h l rel => ?_, fun _ _ _ _ h => h.elim, fun _ _ _ _ h => h.elim, fun sv v δ' L' σ' H' gk h l rel ok => ?_, fun x c d δ' L' σ' H' h l rel ex => ?_⟩⟩
  · exact q _ _ L' H' h ⟨rel.gF.trans (fz_le _ _ _ _), l⟩ rel.lk Dp.non
  · exact q _ _ L' H' h ⟨rel.gF.trans (fz_le _ _ _ _), l⟩ rel.lk ok
  · exact qx x c d L' H' h ⟨rel.gF.trans (fz_le _ _ _ _), l⟩ rel.lk ex
theorem takes_cx {N : List Str} {qual : Str} {scope : Scope} {f : Addr} {cd : Value} {A : Around} {outer : List Env} {s : Shared} {H : Hp} {E : XK} : Takes (cx P w K mg base N qual scope f cd A outer s H E) (WD E) := takes_of rfl rfl rfl rfl
end
section
variable {X : Cx} {LK : Lk} {W : WX} {fl fa fb' : Fl} {e a b c : Expr} {es : List Expr} {pos : Pos} {ta tb tc : TDe} {tt tu : TDt} {tas : TDa} {st : Stmt} {rest body : List Stmt} {t u : TDs}
/-! ### while -/
def whileD (tt : TDt) (tb : TDs) : TDs := fun δ E => ∃ I : Nat → DS → Prop, (∃ n, I n δ) ∧ ∀ n δ, I n δ → tt δ (fun b => if b = true then tb δ { E with nx := fun δ' => ∃ m, m < n ∧ I m δ', ct := fun δ' => ∃ m, m < n ∧ I m δ', bk := E.nx } else E.nx δ) (E.xc δ)
theorem d_while (hp : PassesOwn (model X.prog X.w) X.A X.env X.xe) (hc : DT X LK W c tt) (hb : Ds X LK W body t) : D1 X LK W (.While c body [] pos) (whileD tt t) :=
  ps_imp (ps_while hp hc hb) fun D σ H ⟨G, L, δ, E, rel, ⟨I, ⟨n0, i0⟩, step⟩, q⟩ => by
    refine ⟨fun n σ H => ∃ L' δ', (∀ a, L a = true → L' a = true) ∧ Rel X.K LK G L' δ' σ H ∧ I n δ', ⟨n0, L, δ, fun _ z => z, rel, i0⟩, ?_⟩
    rintro n σ1 H1 ⟨L1, δ1, l1, rel1, i1⟩
    have q1 := q.mono l1
    refine ⟨G, L1, δ1, _, _, rel1, step n δ1 i1, fun b L' H' h st rel' => ?_, fun x c d L' H' h st lk ex => xc_of q1 rel1 x c d h st lk ex⟩
    cases b with
    | false => rw [if_neg Bool.false_ne_true] at h ⊢; exact q1.nx δ1 L' σ1 H' h st.2 rel'
    | true =>
      rw [if_pos rfl] at h ⊢
      have back : ∀ σ' H', (∃ L2' δ2, (∀ a, L' a = true → L2' a = true) ∧ Rel X.K LK G L2' δ2 σ' H' ∧ ∃ m, m < n ∧ I m δ2) → ∃ m', m' < n ∧ ∃ L2' δ2, (∀ a, L a = true → L2' a = true) ∧ Rel X.K LK G L2' δ2 σ' H' ∧ I m' δ2 := by
        rintro σ' H' ⟨L2', δ2, l2, rel2, m, hm, im⟩
        exact ⟨m, hm, L2', δ2, fun a z => l2 a (st.2 a (l1 a z)), rel2, im⟩
      have q2 := q1.mono st.2
      exact ⟨fun σ' H' => ∃ L2' δ2, (∀ a, L' a = true → L2' a = true) ∧ Rel X.K LK G L2' δ2 σ' H' ∧ ∃ m, m < n ∧ I m δ2, back, G, L', δ1, _, rel', h,
        ⟨fun δ' L2' σ' H' h l rel2 => ⟨L2', δ', l, rel2, h⟩, fun δ' L2' σ' H' h l rel2 => q2.nx δ' L2' σ' H' h l rel2, fun δ' L2' σ' H' h l rel2 => ⟨L2', δ', l, rel2, h⟩, q2.rt, q2.xc⟩⟩
/-! ### targets -/
theorem wipe_set {σ : L2.St} {v : Option V} {i : Nat} : ∀ {vs : List Nat}, i ∈ vs → wipe (σ.set i v) vs = wipe σ vs
  | [], h => by simp at h
  | j :: vs, h => by
    unfold L2.wipe
    by_cases hj : i ∈ vs
    · rw [wipe_set hj]
    · have e : i = j := by simpa [hj] using h
      subst e
      have hw : ∀ (ws : List Nat) (τ : L2.St), i ∉ ws → wipe (τ.set i v) ws = (wipe τ ws).set i v := fun ws => by
        induction ws with
        | nil => intro τ _; rfl
        | cons k ws ih =>
          intro τ hk
          simp only [List.mem_cons, not_or] at hk
          unfold L2.wipe
          rw [ih τ hk.2, List.set_comm _ _ (by exact hk.1)]
      rw [hw vs σ hj, List.set_set]
/-- the slots at tv alone are written -/
def OnlyAt (tv : List Nat) (σ σ' : L2.St) : Prop := ∀ vs : List Nat, (∀ i ∈ tv, i ∈ vs) → wipe σ' vs = wipe σ vs
abbrev TDg := PyData → DS → (DS → Prop) → Prop
abbrev TDgs := List PyData → DS → (DS → Prop) → Prop
def liftG (K : PySem.W.Frag) (LK : Lk) (tv : List Nat) (g : TDg) : TG := fun v σ H Q => ∃ (G : Gd) (L : Ls) (δ : DS) (d : PyData) (R : DS → Prop), Rel K LK G L δ σ H ∧ Dp K (fz L δ σ H) v d ∧ g d δ R ∧ ∀ δ' σ', R δ' → OnlyAt tv σ σ' → Rel K LK G L δ' σ' H → Q σ' H
def liftGs (K : PySem.W.Frag) (LK : Lk) (tv : List Nat) (g : TDgs) : TGs := fun vs σ H Q => ∃ (G : Gd) (L : Ls) (δ : DS) (ds : List PyData) (R : DS → Prop), Rel K LK G L δ σ H ∧ DpAll K (fz L δ σ H) vs ds ∧ g ds δ R ∧ ∀ δ' σ', R δ' → OnlyAt tv σ σ' → Rel K LK G L δ' σ' H → Q σ' H
def DG (X : Cx) (LK : Lk) (tv : List Nat) (tg : Expr) (g : TDg) : Prop := PG X tg (liftG X.K LK tv g)
def DGs (X : Cx) (LK : Lk) (tv : List Nat) (tg : List Expr) (g : TDgs) : Prop := PGs X tg (liftGs X.K LK tv g)
theorem pg_imp {X : Cx} {e : Expr} {t t' : TG} (h : PG X e t) (i : ∀ v σ H Q, t' v σ H Q → t v σ H Q) : PG X e t' := by
  obtain ⟨run⟩ := h
  constructor
  intros
  apply run <;> first | assumption | (apply i; assumption)
theorem pgs_imp {X : Cx} {e : List Expr} {t t' : TGs} (h : PGs X e t) (i : ∀ v σ H Q, t' v σ H Q → t v σ H Q) : PGs X e t' := by
  obtain ⟨run⟩ := h
  constructor
  intros
  apply run <;> first | assumption | (apply i; assumption)
def gN (i : Nat) : TDg := fun d δ R => R (δ.set i (some (.d d)))
theorem put_data {K : PySem.W.Frag} {G : Gd} {L : Ls} {δ : DS} {σ : L2.St} {H : Hp} {v : V} {d : PyData} (rel : Rel K LK G L δ σ H) (i : Nat) (h : Dp K (fz L δ σ H) v d) : Rel K LK G L (δ.set i (some (.d d))) (σ.set i (some v)) H :=
  rel.put (Step.refl _ _) rel.lk (fun z => nomatch z) (dp_mono (fz_set rel rfl) _ _ h)
theorem dg_name (i : Nat) {x : Str} (hN : X.N.Nodup) (hi : X.N[i]? = some x := by rfl) (hx : Loc X.env.scope x := by first | exact Or.inl rfl | exact Or.inr rfl) (hf : X.fn x = true ∨ X.env.scope.names.lookup x = some .local := by first | exact .inl rfl | exact .inr rfl) : DG X LK [i] (.Name x pos) (gN i) :=
  pg_imp (pg_name hN hi hx hf) fun v σ H Q ⟨G, L, δ, d, R, rel, hd, g, q⟩ => q _ _ g (fun vs h => wipe_set (h i (by simp))) (put_data rel i hd)
def gsNil : TDgs := fun ds δ R => ds = [] ∧ R δ
def gsCons (g : TDg) (gs : TDgs) : TDgs := fun ds δ R => match ds with
  | d :: r => g d δ fun δ' => gs r δ' R
  | [] => False
theorem dgs_nil : DGs X LK [] [] gsNil := pgs_imp pgs_nil fun vs σ H Q ⟨G, L, δ, ds, R, rel, hd, g, q⟩ => by
  obtain ⟨rfl, g⟩ := g
  cases hd
  exact ⟨rfl, q _ _ g (fun _ _ => rfl) rel⟩
/-- one name, then the others -/
theorem dgs_name (i : Nat) {tv : List Nat} {x : Str} {gs : TDgs} (hN : X.N.Nodup) (h2 : DGs X LK tv es gs) (hi : X.N[i]? = some x := by rfl) (hx : Loc X.env.scope x := by first | exact Or.inl rfl | exact Or.inr rfl) (hf : X.fn x = true ∨ X.env.scope.names.lookup x = some .local := by first | exact .inl rfl | exact .inr rfl) :
    DGs X LK (i :: tv) (.Name x pos :: es) (gsCons (gN i) gs) :=
  pgs_imp (pgs_cons (pg_name hN hi hx hf) h2) fun vs σ H Q ⟨G, L, δ, ds, R, rel, hd, g, q⟩ => by
    cases ds with
    | nil => exact g.elim
    | cons d r =>
      cases hd with
      | cons h1 h2 => exact ⟨_, _, rfl, G, L, _, r, R, put_data rel i h1, dpA_mono (fz_set rel rfl) _ _ h2, g, fun δ' σ' h oa r2 => q δ' σ' h (fun vs hv => (oa vs fun j hj => hv j (List.mem_cons_of_mem _ hj)).trans (wipe_set (hv i (by simp)))) r2⟩
def gT (n : Nat) (gs : TDgs) : TDg := fun d δ R => match d with
  | .tuple ds => ds.length = n ∧ gs ds δ R
  | _ => False
theorem dg_tup {tv : List Nat} {k : Nat} {n : Nat} {gs : TDgs} (hc : X.calm = true) (h : DGs X LK tv es gs) (hn : (assignEach es X.env).length = n := by rfl) (hst : (assignEach es X.env).findIdx? (·.1) = none := by rfl) : DG X LK tv (.Tuple es k pos) (gT n gs) := by
  refine pg_imp (pg_tup (n := n) hc h hn hst) fun v σ H Q ⟨G, L, δ, d, R, rel, hd, g, q⟩ => ?_
  unfold gT at g
  split at g
  · obtain ⟨a, vs, rfl, s, da⟩ := dp_tup hd
    exact ⟨a, vs, rfl, same_sqT ((fz_le _ _ _ _).trans (hid_le _ _)) s, by rw [dpA_len da]; exact g.1, G, L, δ, _, R, rel, da, g.2, q⟩
  · exact g.elim
@[simp] def sUnp (fl : Fl) (ta : TDe) (g : TDg) : TDs := fun δ E => ta δ (fun sv => wD sv fun d => (fl.o = true ∨ nolist d = true) ∧ g d δ E.nx) (E.xc δ)
theorem d_unpack {tv : List Nat} {tg : Expr} {g : TDg} (he : DX X LK W fl e ta) (hg : DG X LK tv tg g) (hs : swapsWithSole [tg] e pos.line X.env = pure false := by rfl) (hw : swappedStores [tg] e X.env = pure none := by rfl) (h1 : (assignEach [tg] X.env).map (·.2) = [assign tg X.env] := by rfl) :
    D1 X LK W (.Assign [tg] e pos) (sUnp fl ta g) :=
  ps_imp (ps_asg he hg hs hw h1) fun D σ H ⟨G, L, δ, E, rel, r, q⟩ => ⟨G, L, δ, _, _, rel, r, fun sv v L' H' h st rel' res => by
    obtain ⟨d, ed, o, hg⟩ := wD_out h
    refine ⟨G, L', δ, d, _, rel', ?_, hg, fun δ' σ' h _ rel2 => q.nx δ' L' σ' H' h st.2 rel2⟩
    rcases o with o | o
    · exact dp_mono (pk_o o) _ _ (asD_ok ed res.1)
    · exact dp_mono (nw_le _ _) _ _ (rel'.keep o (asD_ok ed (res.b (fz_le _ _ _ _)))), fun x c d L' H' h st lk ex => xc_of q rel x c d h st lk ex⟩
/-! ### what a for walks -/
abbrev TDi := DS → (List PyData → Prop) → (Exn → Prop) → Prop
def ItOk (K : PySem.W.Frag) (items : List PyData) (J : It) (MS MI : Hp) : Prop :=
  (∀ i H, Same MS H → i < items.length → J.go i H) ∧ (∀ i H, Same MS H → i = items.length → J.stop i H) ∧
  (∀ i H x H', Same MS H → i < items.length → J.yld i H x H' → ∃ d, items[i]? = some d ∧ ((H' = H ∧ Dp K MI x d) ∨ ∃ p xs ds, H p = none ∧ H' = upd H p (.tup xs) ∧ x = .ref p ∧ d = .tuple ds ∧ DpAll K MI xs ds))
def liftI (K : PySem.W.Frag) (LK : Lk) (W : WX) (o : Bool) (ti : TDi) : TI := fun σ H Q =>
  ∃ (G : Gd) (L : Ls) (δ : DS) (R : List PyData → Prop) (RX : Exn → Prop), Rel K LK G L δ σ H ∧ ti δ R RX ∧
    (∀ items J L' H', R items → Step L H L' H' → Rel K LK G L' δ σ H' → ItOk K items J (if o = true then fz L' δ σ H' else hid L' H') (fz L' δ σ H') → Q J H') ∧
    (∀ x c d L' H', RX x → Step L H L' H' → LkOk LK L' H' → ExOk K (nw G (hid L' H')) x c d → W c d σ H')
def DI (X : Cx) (LK : Lk) (W : WX) (o : Bool) (tg e : Expr) (ti : TDi) : Prop := PI X tg e (liftI X.K LK W o ti)
theorem pi_imp {tg : Expr} {t t' : TI} (h : PI X tg e t) (i : ∀ σ H Q, t' σ H Q → t σ H Q) : PI X tg e t' := ⟨fun pins s σ H Q I q => h.run pins s σ H Q I (i σ H Q q)⟩
def forL (g : TDg) (tb : TDs) : List PyData → TDs
  | [], δ, E => E.nx δ
  | d :: r, δ, E => g d δ fun δ1 => tb δ1 { nx := fun δ2 => forL g tb r δ2 E, rt := E.rt, xc := E.xc, bk := E.nx, ct := fun δ2 => forL g tb r δ2 E }
theorem Rel.rek {K : PySem.W.Frag} {G : Gd} {L : Ls} {δ : DS} {σ : L2.St} {H : Hp} (rel : Rel K LK G L δ σ H) (k : Hp) (h : Same G.n k) (h2 : Same k (fz L δ σ H)) : Rel K LK ⟨G.n, k⟩ L δ σ H := ⟨h, h2, rel.lk, rel.sl, rel.ow, rel.ln⟩
@[simp] def sFor (ti : TDi) (g : TDg) (t : TDs) : TDs := fun δ E => ti δ (fun items => forL g t items δ E) (E.xc δ)
theorem d_for {tv : List Nat} {tg iter : Expr} {ti : TDi} {g : TDg} (hp : PassesOwn (model X.prog X.w) X.A X.env X.xe) (hc : X.calm = true) (hi : DI X LK W true tg iter ti) (hg : DG X LK tv tg g) (hb : Ds X LK W body t) (hs : ∀ x, foldedSetIterable iter X.env x = pure x := by intro _; rfl) :
    D1 X LK W (.For tg iter body [] pos) (sFor ti g t) :=
  ps_imp (ps_for hp hc hi hg hb hs) fun D σ H ⟨G, L, δ, E, rel, r, q⟩ => ⟨G, L, δ, _, _, rel, r, fun items J L1 H1 h st rel1 ok => by
    rw [if_pos rfl] at ok
    obtain ⟨og, os, oy⟩ := ok
    have q1 := q.mono st.2
    -- through the loop all that no slot owned at its start stays
    refine ⟨fun i m σ' H' => m = items.length - i ∧ i ≤ items.length ∧ ∃ L' δ', (∀ a, L1 a = true → L' a = true) ∧ Rel X.K LK ⟨G.n, fz L1 δ σ H1⟩ L' δ' σ' H' ∧ forL g t (items.drop i) δ' E,
      ⟨items.length, by simp, Nat.zero_le _, L1, δ, fun _ z => z, rel1.rek _ rel1.gF (Same.refl _), by simpa using h⟩, ?_⟩
    rintro i m σ' H' ⟨rfl, hi', L', δ', l, rel', hf⟩
    have sm : Same (fz L1 δ σ H1) H' := rel'.g.trans ((fz_le _ _ _ _).trans (hid_le _ _))
    have un : ∀ {δ2 : DS} {L2' : Ls} {σ2 : L2.St} {H2 : Hp}, Rel X.K LK ⟨G.n, fz L1 δ σ H1⟩ L2' δ2 σ2 H2 → Rel X.K LK G L2' δ2 σ2 H2 := fun r2 => ⟨rel1.gn, rel1.g.trans r2.g, r2.lk, r2.sl, r2.ow, r2.ln⟩
    have q2 := q1.mono l
    by_cases hlt : i < items.length
    · refine .inr ⟨og i H' sm hlt, fun σ2 H2 => ∃ L2' δ2, (∀ a, L1 a = true → L2' a = true) ∧ Rel X.K LK ⟨G.n, fz L1 δ σ H1⟩ L2' δ2 σ2 H2 ∧ forL g t (items.drop (i + 1)) δ2 E, fun σ2 H2 ⟨L2', δ2, l2, r2, f2⟩ => ⟨_, by omega, rfl, hlt, L2', δ2, l2, r2, f2⟩, fun x H2 hy => ?_⟩
      obtain ⟨d, hd, hx⟩ := oy i H' x H2 sm hlt hy
      have ed : items.drop i = d :: items.drop (i + 1) := by
        rw [List.drop_eq_getElem_cons hlt]
        rw [List.getElem?_eq_getElem hlt] at hd
        cases hd; rfl
      rw [ed] at hf
      have body : ∀ {H2 : Hp}, Rel X.K LK ⟨G.n, fz L1 δ σ H1⟩ L' δ' σ' H2 → Dp X.K (fz L' δ' σ' H2) x d → liftG X.K LK tv g x σ' H2 fun σ2 H3 => liftS X.K LK W t { D with nx := fun σ2 H2 => ∃ L2' δ2, (∀ a, L1 a = true → L2' a = true) ∧ Rel X.K LK ⟨G.n, fz L1 δ σ H1⟩ L2' δ2 σ2 H2 ∧ forL g t (items.drop (i + 1)) δ2 E, ct := fun σ2 H2 => ∃ L2' δ2, (∀ a, L1 a = true → L2' a = true) ∧ Rel X.K LK ⟨G.n, fz L1 δ σ H1⟩ L2' δ2 σ2 H2 ∧ forL g t (items.drop (i + 1)) δ2 E, bk := D.nx } σ2 H3 := fun {H2} r2 dx =>
        ⟨_, L', δ', d, _, r2, dx, hf, fun δ3 σ3 h3 _ r3 => ⟨_, L', δ3, _, r3, h3,
          ⟨fun δ4 L4 σ4 H4 h4 l4 r4 => ⟨L4, δ4, fun a z => l4 a (l a z), r4, h4⟩, fun δ4 L4 σ4 H4 h4 l4 r4 => q2.nx δ4 L4 σ4 H4 h4 l4 (un r4), fun δ4 L4 σ4 H4 h4 l4 r4 => ⟨L4, δ4, fun a z => l4 a (l a z), r4, h4⟩,
            fun sv v δ4 L4 σ4 H4 gk h4 l4 r4 ok => q2.rt sv v δ4 L4 σ4 H4 gk h4 l4 r4 ok, fun x c d δ4 L4 σ4 H4 h4 l4 r4 ex => q2.xc x c d δ4 L4 σ4 H4 h4 l4 (un r4) ex⟩⟩⟩
      rcases hx with ⟨rfl, dx⟩ | ⟨p, xs, ds, hp, rfl, rfl, rfl, da⟩
      · exact body rel' (dp_mono rel'.g _ _ dx)
      · have np := new_at rel' hp (o := .tup xs)
        exact body (rel'.new hp) (Dp.tup (SqT.of (nw_le _ _ _ _ np)) (dpA_mono (rel'.g.trans (fz_step (rel'.stepNew hp))) _ _ da))
    · have e : i = items.length := by omega
      subst e
      rw [List.drop_length] at hf
      exact .inl ⟨os _ H' sm rfl, q2.nx δ' L' σ' H' hf (fun _ z => z) (un rel')⟩,
    fun x c d L' H' h st lk ex => xc_of q rel x c d h st lk ex⟩
end
end DL

namespace DL
open PySem PySem.Spec PyProof.Rows L2

section
variable {X : Cx} {LK : Lk} {W : WX} {fl fa fb' : Fl} {e a b c : Expr} {es : List Expr} {pos p : Pos} {ta tb tc : TDe} {tt tu : TDt} {tas : TDa} {st : Stmt} {rest body : List Stmt} {t u : TDs}
/-! ### built-in functions of one and two arguments -/
abbrev Post (X : Cx) (LK : Lk) (G : Gd) (L : Ls) (δ : DS) (σ : L2.St) (H : Hp) (R : SV → Prop) (Q : VK) : Prop :=
  ∀ sv v H', R sv → Step L H L H' → Rel X.K LK G L δ σ H' → Res X.K G ff (hid L H) (fz L δ σ H') (hid L H') L v sv → Q v H'
def Adq1 (X : Cx) (LK : Lk) (r : V → Hp → VK → Prop) (g : SV → (SV → Prop) → Prop) : Prop := ∀ (G : Gd) (L : Ls) (δ : DS) (σ : L2.St) (H : Hp) (x : V) (sx : SV) (R : SV → Prop) (Q : VK),
  Rel X.K LK G L δ σ H → SvOk X.K (hid L H) L x sx → g sx R → Post X LK G L δ σ H R Q → r x H Q
theorem call1_dx {r : List V → Hp → VK → Prop} {g : SV → (SV → Prop) → Prop} (ad : Adq1 X LK (fun x => r [x]) g) {σ : L2.St} {H : Hp} {Q : VK} (h : lift X.K LK W ff (fun δ R RX => ta δ (fun x => g x R) RX) σ H Q) : tCB r (tCons (lift X.K LK W fa ta) tNil) σ H Q := by
  obtain ⟨G, L, δ, R, RX, rel, r, q, qx⟩ := h
  exact ⟨G, L, δ, _, RX, rel, r, fun sx x L1 H1 hx st1 rel1 res1 => ad G L1 δ σ H1 x sx R Q rel1 (res1.b (fz_le _ _ _ _)) hx fun sv v H' h st2 rel2 res2 => q sv v L1 H' h (st1.trans st2) rel2 (res2.back st1), qx⟩
@[simp] def e1 (g : SV → (SV → Prop) → Prop) (ta : TDe) : TDe := fun δ R RX => ta δ (fun x => g x R) RX
theorem dx_call1 {id : String} {x : Str} {r : List V → Hp → VK → Prop} {g : SV → (SV → Prop) → Prop} (hc : CallR X (.builtin id) r) (ad : Adq1 X LK (fun x => r [x]) g) (hg : Gl X x) (hm : X.mg x = none) (hv : bootBuiltins x = some (.builtin id)) (ha : DX X LK W fa a ta)
    (hn : x ≠ "__name__" := by decide) (hdb : (x == ("__debug__" : Str)) = false := by decide) (hs : starEach [a] X.env = (false, eval a X.env) :: starEach [] X.env := by rfl) : DX X LK W ff (.Call (.Name x p) [a] [] pos) (e1 g ta) :=
  pe_imp (pe_callB hc hg hm hv (pa_cons ha pa_nil hs) hn hdb hs) fun _ _ _ h => call1_dx ad h
theorem dx_ty1 {id : String} {x : Str} {r : List V → Hp → VK → Prop} {g : SV → (SV → Prop) → Prop} (hc : CallR X (.type id) r) (ad : Adq1 X LK (fun x => r [x]) g) (hg : Gl X x) (hm : X.mg x = none) (hv : bootBuiltins x = some (.type id)) (ha : DX X LK W fa a ta)
    (hn : x ≠ "__name__" := by decide) (hdb : (x == ("__debug__" : Str)) = false := by decide) (hs : starEach [a] X.env = (false, eval a X.env) :: starEach [] X.env := by rfl) : DX X LK W ff (.Call (.Name x p) [a] [] pos) (e1 g ta) :=
  pe_imp (pe_callTy hc hg hm hv (pa_cons ha pa_nil hs) hn hdb hs) fun _ _ _ h => call1_dx ad h
theorem dx_call2 {id : String} {x : Str} {r : List V → Hp → VK → Prop} {g : SV → SV → (SV → Prop) → Prop} (hc : CallR X (.builtin id) r) (ad : Adeq X LK (fun x y H Q => r [x, y] H Q) g) (hg : Gl X x) (hm : X.mg x = none) (hv : bootBuiltins x = some (.builtin id)) (ha : DX X LK W fa a ta) (hb : DX X LK W fb' b tb)
    (hn : x ≠ "__name__" := by decide) (hdb : (x == ("__debug__" : Str)) = false := by decide) (hs : starEach [a, b] X.env = (false, eval a X.env) :: starEach [b] X.env := by rfl) (hs2 : starEach [b] X.env = (false, eval b X.env) :: starEach [] X.env := by rfl) (hpl : (backTo pos (starEach [b] X.env)).any (·.1) = false := by rfl) :
    DX X LK W ff (.Call (.Name x p) [a, b] [] pos) (eB g ta tb) :=
  pe_imp (pe_callB hc hg hm hv (pa_cons ha (pa_cons hb pa_nil hs2) hs) hn hdb hs hpl) fun _ _ _ h => tOp_dx (r := fun x y H Q => r [x, y] H Q) ad h
/-! len, isinstance -/
def lenV (sv : SV) (R : SV → Prop) : Prop := match sv with
  | .d (.str s) => s.length ≤ sizeLine ∧ R (.d (.int s.length))
  | .d (.tuple xs) => R (.d (.int xs.length))
  | .d (.list xs) => R (.d (.int xs.length))
  | .own xs => R (.d (.int xs.length))
  | _ => False
@[simp] theorem lenV_str (s : Str) (R : SV → Prop) : lenV (.d (.str s)) R = (s.length ≤ sizeLine ∧ R (.d (.int s.length))) := rfl
@[simp] theorem lenV_tup (s : List PyData) (R : SV → Prop) : lenV (.d (.tuple s)) R = R (.d (.int s.length)) := rfl
@[simp] theorem lenV_lst (s : List PyData) (R : SV → Prop) : lenV (.d (.list s)) R = R (.d (.int s.length)) := rfl
@[simp] theorem lenV_own (s : List PyData) (R : SV → Prop) : lenV (.own s) R = R (.d (.int s.length)) := rfl
theorem dx_len (hg : Gl X "len") (hm : X.mg "len" = none) (ha : DX X LK W fa a ta) (hs : starEach [a] X.env = (false, eval a X.env) :: starEach [] X.env := by rfl) : DX X LK W ff (.Call (.Name "len" p) [a] [] pos) (e1 lenV ta) :=
  dx_call1 call_len (fun G L δ σ H x sx R Q rel hx h q => by
    unfold lenV at h
    split at h
    · cases hx
      exact ⟨_, _, rfl, ⟨h.1, rfl⟩, q _ _ H h.2 (Step.refl _ _) rel (res_sc fun _ => Dp.int _)⟩
    · obtain ⟨p, vs, rfl, s, d⟩ := dp_tup hx
      exact ⟨_, _, rfl, .inr ⟨vs, hid_sqT s, rfl⟩, q _ _ H h (Step.refl _ _) rel (res_sc fun _ => by rw [dpA_len d]; exact Dp.int _)⟩
    · cases hx with
      | lst s d => exact ⟨_, _, rfl, .inl ⟨_, hid_sqL s, rfl⟩, q _ _ H h (Step.refl _ _) rel (res_sc fun _ => by rw [dpA_len d]; exact Dp.int _)⟩
    · obtain ⟨p, vs, rfl, s, d⟩ := hx
      exact ⟨_, _, rfl, .inl ⟨vs, hid_sqL (SqL.of s), rfl⟩, q _ _ H h (Step.refl _ _) rel (res_sc fun _ => by rw [dpA_len d]; exact Dp.int _)⟩
    · exact h.elim) hg hm PySem.boot_len ha (by decide) (by decide) hs
def tyName : SV → String
  | .d .none => "NoneType"
  | .d (.bool _) => "bool"
  | .d (.int _) => "int"
  | .d (.str _) => "str"
  | .d (.tuple _) => "tuple"
  | .d (.list _) => "list"
  | .own _ => "list"
  | _ => "dict"
def isD : SV → Bool
  | .d (.dict _) => false
  | .d _ => true
  | .own _ => true
  | _ => false
theorem ty_of {K : PySem.W.Frag} {H : Hp} {L : Ls} {v : V} {sv : SV} (h : SvOk K H L v sv) (d : isD sv = true) : TyX K H v (.type (tyName sv)) := by
  have lst : ∀ {a : Addr} {xs : List V}, SqL K H a xs → TyX K H (.ref a) (.type "list") := fun {a xs} s => by
    rcases s with (s | ⟨o, s⟩) | ⟨o, _, _, e, c, _⟩
    · exact .base (.lst s)
    · exact .base (.frz s)
    · exact .kList e c
  cases sv with
  | d x =>
    cases h with
    | non => exact .base .non
    | bl b => exact .base (.bl b)
    | int i => exact .base (.int i)
    | str x => exact .base (.str x)
    | lst s _ => exact lst s
    | tup s _ =>
      rcases s with (s | ⟨o, s⟩) | ⟨o, _, _, e, c, _⟩
      · exact .base (.tup s)
      · exact .fTuple s
      · exact .kTuple e c
  | own xs =>
    obtain ⟨a, vs, rfl, s, _⟩ := h
    exact lst (SqL.of s)
  | _ => simp [isD] at d
theorem tyx_mono {K : PySem.W.Frag} {L : Ls} {H : Hp} {v : V} {sv : SV} (h : SvOk K (hid L H) L v sv) : SvOk K H L v sv := svOk_mono (hid_le L H) (fun _ z => z) h
def isIntS : SV → Bool
  | .d (.int _) => true | .d (.bool _) => true | _ => false
def isBoolS : SV → Bool
  | .d (.bool _) => true | _ => false
def isStrS : SV → Bool
  | .d (.str _) => true | _ => false
def isTupS : SV → Bool
  | .d (.tuple _) => true | _ => false
def isLstS : SV → Bool
  | .d (.list _) => true | .own _ => true | _ => false
theorem kit_cases {T : String} {f : SV → Bool} (h : ∀ n ∈ ["NoneType", "bool", "int", "str", "tuple", "list"], ∀ sv, isD sv = true → tyName sv = n → kitB n T = some (f sv)) : ∀ sv, isD sv = true → kitB (tyName sv) T = some (f sv) := fun sv d => by
  refine h _ ?_ sv d rfl
  cases sv with
  | d x => cases x <;> simp [isD] at d <;> simp [tyName]
  | own _ => simp [tyName]
  | _ => simp [isD] at d
theorem kb : (kitB "NoneType" "int" = some false ∧ kitB "bool" "int" = some true ∧ kitB "int" "int" = some true ∧ kitB "str" "int" = some false ∧ kitB "tuple" "int" = some false ∧ kitB "list" "int" = some false) ∧
    (kitB "NoneType" "bool" = some false ∧ kitB "bool" "bool" = some true ∧ kitB "int" "bool" = some false ∧ kitB "str" "bool" = some false ∧ kitB "tuple" "bool" = some false ∧ kitB "list" "bool" = some false) ∧
    (kitB "NoneType" "str" = some false ∧ kitB "bool" "str" = some false ∧ kitB "int" "str" = some false ∧ kitB "str" "str" = some true ∧ kitB "tuple" "str" = some false ∧ kitB "list" "str" = some false) ∧
    (kitB "NoneType" "tuple" = some false ∧ kitB "bool" "tuple" = some false ∧ kitB "int" "tuple" = some false ∧ kitB "str" "tuple" = some false ∧ kitB "tuple" "tuple" = some true ∧ kitB "list" "tuple" = some false) ∧
    (kitB "NoneType" "list" = some false ∧ kitB "bool" "list" = some false ∧ kitB "int" "list" = some false ∧ kitB "str" "list" = some false ∧ kitB "tuple" "list" = some false ∧ kitB "list" "list" = some true) := by decide +kernel
theorem kit_int : ∀ sv, isD sv = true → kitB (tyName sv) "int" = some (isIntS sv) := fun sv d => by
  have k := kb.1
  cases sv with
  | d x => cases x <;> simp [isD] at d <;> simp [tyName, isIntS, k]
  | own _ => simp [tyName, isIntS, k]
  | _ => simp [isD] at d
theorem kit_bool : ∀ sv, isD sv = true → kitB (tyName sv) "bool" = some (isBoolS sv) := fun sv d => by
  have k := kb.2.1
  cases sv with
  | d x => cases x <;> simp [isD] at d <;> simp [tyName, isBoolS, k]
  | own _ => simp [tyName, isBoolS, k]
  | _ => simp [isD] at d
theorem kit_str : ∀ sv, isD sv = true → kitB (tyName sv) "str" = some (isStrS sv) := fun sv d => by
  have k := kb.2.2.1
  cases sv with
  | d x => cases x <;> simp [isD] at d <;> simp [tyName, isStrS, k]
  | own _ => simp [tyName, isStrS, k]
  | _ => simp [isD] at d
theorem kit_tup : ∀ sv, isD sv = true → kitB (tyName sv) "tuple" = some (isTupS sv) := fun sv d => by
  have k := kb.2.2.2.1
  cases sv with
  | d x => cases x <;> simp [isD] at d <;> simp [tyName, isTupS, k]
  | own _ => simp [tyName, isTupS, k]
  | _ => simp [isD] at d
theorem kit_lst : ∀ sv, isD sv = true → kitB (tyName sv) "list" = some (isLstS sv) := fun sv d => by
  have k := kb.2.2.2.2
  cases sv with
  | d x => cases x <;> simp [isD] at d <;> simp [tyName, isLstS, k]
  | own _ => simp [tyName, isLstS, k]
  | _ => simp [isD] at d
@[simp] def eIsi (f : SV → Bool) (ta : TDe) : TDe := fun δ R RX => ta δ (fun sx => isD sx = true ∧ R (.d (.bool (f sx)))) RX
theorem dx_isi {T : String} {y : Str} {f : SV → Bool} {p2 : Pos} (hk : ∀ sv, isD sv = true → kitB (tyName sv) T = some (f sv)) (hgT : Gl X y) (hmT : X.mg y = none) (hvT : bootBuiltins y = some (.type T)) (hg : Gl X "isinstance") (hm : X.mg "isinstance" = none)
    (hv : bootBuiltins "isinstance" = some (.builtin "isinstance")) (ha : DX X LK W fa a ta) (hnT : y ≠ "__name__" := by decide) (hdT : (y == ("__debug__" : Str)) = false := by decide)
    (hs : starEach [a, .Name y p2] X.env = (false, eval a X.env) :: starEach [.Name y p2] X.env := by rfl) (hs2 : starEach [.Name y p2] X.env = (false, eval (.Name y p2) X.env) :: starEach [] X.env := by rfl) (hpl : (backTo pos (starEach [.Name y p2] X.env)).any (·.1) = false := by rfl) :
    DX X LK W ff (.Call (.Name "isinstance" p) [a, .Name y p2] [] pos) (eIsi f ta) :=
  pe_imp (pe_callB call_isi hg hm hv (pa_cons ha (pa_cons (pe_bltn (v := .ty T) hgT hmT hvT rfl hnT hdT) pa_nil hs2) hs) (by decide) (by decide) hs hpl) fun σ H Q ⟨G, L, δ, R, RX, rel, r, q, qx⟩ =>
    ⟨G, L, δ, _, RX, rel, r, fun sx x L1 H1 hx st1 rel1 res1 => ⟨x, .ty T, .type (tyName sx), .type T, f sx, rfl, .ty T, ty_of (tyx_mono (res1.b (fz_le _ _ _ _))) hx.1, kit_ty (hk sx hx.1), q _ _ L1 H1 hx.2 st1 rel1 (res_sc fun _ => Dp.bl _)⟩, qx⟩
/-! min, max of two ints; abs; int, ord, str; tuple, list; sorted -/
def mmD (g : Int → Int → Int) : BinD := fun x y R => match x, y with | .int i, .int j => R (.d (.int (g i j))) | _, _ => False
@[simp] theorem mmD_int (g : Int → Int → Int) (i j : Int) (R : SV → Prop) : mmD g (.int i) (.int j) R = R (.d (.int (g i j))) := rfl
theorem adeq_mm {r : R2} {g : Int → Int → Int} (hr : ∀ i j H (Q : VK), Q (.int (g i j)) H → r (.int i) (.int j) H Q) : Adeq X LK r (opD (mmD g)) := fun G L δ σ H x y sx sy R Q rel hx hy h q => by
  obtain ⟨dx, ex, k⟩ := wD_out h
  clear h
  obtain ⟨dy, ey, h⟩ := wD_out k
  clear k
  have h1 := asD_ok ex hx
  have h2 := asD_ok ey hy
  cases h1 <;> cases h2 <;> first | exact h.elim | skip
  exact hr _ _ H Q (q _ _ H h (Step.refl _ _) rel (res_sc fun _ => Dp.int _))
theorem dx_max2 (hc : X.calm = true) (hg : Gl X "max") (hm : X.mg "max" = none) (ha : DX X LK W fa a ta) (hb : DX X LK W fb' b tb) (hs : starEach [a, b] X.env = (false, eval a X.env) :: starEach [b] X.env := by rfl) (hs2 : starEach [b] X.env = (false, eval b X.env) :: starEach [] X.env := by rfl) (hpl : (backTo pos (starEach [b] X.env)).any (·.1) = false := by rfl) :
    DX X LK W ff (.Call (.Name "max" p) [a, b] [] pos) (eB (opD (mmD fun i j => max i j)) ta tb) :=
  dx_call2 (call_max2 hc) (adeq_mm fun i j H Q h => ⟨i, j, rfl, by
    by_cases e : j > i
    · rw [if_pos e]; rwa [show max i j = j by omega] at h
    · rw [if_neg e]; rwa [show max i j = i by omega] at h⟩) hg hm (by decide +kernel) ha hb (by decide) (by decide) hs hs2 hpl
theorem dx_min2 (hc : X.calm = true) (hg : Gl X "min") (hm : X.mg "min" = none) (ha : DX X LK W fa a ta) (hb : DX X LK W fb' b tb) (hs : starEach [a, b] X.env = (false, eval a X.env) :: starEach [b] X.env := by rfl) (hs2 : starEach [b] X.env = (false, eval b X.env) :: starEach [] X.env := by rfl) (hpl : (backTo pos (starEach [b] X.env)).any (·.1) = false := by rfl) :
    DX X LK W ff (.Call (.Name "min" p) [a, b] [] pos) (eB (opD (mmD fun i j => min i j)) ta tb) :=
  dx_call2 (call_min2 hc) (adeq_mm fun i j H Q h => ⟨i, j, rfl, by
    by_cases e : j < i
    · rw [if_pos e]; rwa [show min i j = j by omega] at h
    · rw [if_neg e]; rwa [show min i j = i by omega] at h⟩) hg hm (by decide +kernel) ha hb (by decide) (by decide) hs hs2 hpl
def un1 (g : PyData → (SV → Prop) → Prop) : SV → (SV → Prop) → Prop := fun sx R => wD sx fun x => g x R
@[simp] theorem un1_d (g : PyData → (SV → Prop) → Prop) (x : PyData) (R : SV → Prop) : un1 g (.d x) R = g x R := rfl
@[simp] theorem un1_own (g : PyData → (SV → Prop) → Prop) (x : List PyData) (R : SV → Prop) : un1 g (.own x) R = g (.list x) R := rfl
def absD : PyData → (SV → Prop) → Prop := fun x R => match x with | .int i => R (.d (.int (if i < 0 then -i else i))) | _ => False
def intD : PyData → (SV → Prop) → Prop := fun x R => match x with
  | .int i => R (.d (.int i))
  | .bool b => R (.d (.int (if b then 1 else 0)))
  | .str s => (match PySem.intText? s with | some n => s.length ≤ 640 ∧ R (.d (.int n)) | none => False)
  | _ => False
def ordD : PyData → (SV → Prop) → Prop := fun x R => match x with | .str s => s.length = 1 ∧ R (.d (.int (s.cps.getD 0 0 : Nat))) | _ => False
def strD : PyData → (SV → Prop) → Prop := fun x R => match x with | .int i => i.natAbs.log2 < 1920 ∧ R (.d (.str (toString i))) | .str s => R (.d (.str s)) | _ => False
@[simp] theorem absD_int (i : Int) (R : SV → Prop) : absD (.int i) R = R (.d (.int (if i < 0 then -i else i))) := rfl
@[simp] theorem intD_int (i : Int) (R : SV → Prop) : intD (.int i) R = R (.d (.int i)) := rfl
@[simp] theorem intD_bool (i : Bool) (R : SV → Prop) : intD (.bool i) R = R (.d (.int (if i then 1 else 0))) := rfl
@[simp] theorem ordD_str (s : Str) (R : SV → Prop) : ordD (.str s) R = (s.length = 1 ∧ R (.d (.int (s.cps.getD 0 0 : Nat)))) := rfl
@[simp] theorem strD_int (i : Int) (R : SV → Prop) : strD (.int i) R = (i.natAbs.log2 < 1920 ∧ R (.d (.str (toString i)))) := rfl
theorem dx_abs (hg : Gl X "abs") (hm : X.mg "abs" = none) (ha : DX X LK W fa a ta) (hs : starEach [a] X.env = (false, eval a X.env) :: starEach [] X.env := by rfl) : DX X LK W ff (.Call (.Name "abs" p) [a] [] pos) (e1 (un1 absD) ta) :=
  dx_call1 call_abs (fun G L δ σ H x sx R Q rel hx h q => by
    obtain ⟨d, ed, h⟩ := wD_out h
    have h1 := asD_ok ed hx
    cases d <;> first | exact h.elim | skip
    cases h1
    exact ⟨_, rfl, q _ _ H h (Step.refl _ _) rel (res_sc fun _ => Dp.int _)⟩) hg hm (by decide +kernel) ha (by decide) (by decide) hs
theorem CallR.or {f : Value} {r r' : List V → Hp → VK → Prop} (h : CallR X f r) (h' : CallR X f r') : CallR X f (fun x H Q => r x H Q ∨ r' x H Q) := by
  intro pins s σ H xs us Q I rx q
  exact q.elim (fun q => h pins s σ H xs us Q I rx q) (fun q => h' pins s σ H xs us Q I rx q)
theorem dx_intc (hg : Gl X "int") (hm : X.mg "int" = none) (ha : DX X LK W fa a ta) (hs : starEach [a] X.env = (false, eval a X.env) :: starEach [] X.env := by rfl) : DX X LK W ff (.Call (.Name "int" p) [a] [] pos) (e1 (un1 intD) ta) :=
  dx_ty1 (CallR.or call_int1 call_int_str) (fun G L δ σ H x sx R Q rel hx h q => by
    obtain ⟨d, ed, h⟩ := wD_out h
    have h1 := asD_ok ed hx
    cases d <;> first | exact h.elim | skip
    · cases h1
      exact .inl (.inr ⟨_, rfl, q _ _ H h (Step.refl _ _) rel (res_sc fun _ => Dp.int _)⟩)
    · cases h1
      exact .inl (.inl ⟨_, rfl, q _ _ H h (Step.refl _ _) rel (res_sc fun _ => Dp.int _)⟩)
    · cases h1
      unfold intD at h
      simp only at h
      split at h
      · rename_i n en
        exact .inr ⟨_, n, rfl, en, h.1, q _ _ H h.2 (Step.refl _ _) rel (res_sc fun _ => Dp.int _)⟩
      · exact h.elim) hg hm (by decide +kernel) ha (by decide) (by decide) hs
theorem dx_ord (hg : Gl X "ord") (hm : X.mg "ord" = none) (ha : DX X LK W fa a ta) (hs : starEach [a] X.env = (false, eval a X.env) :: starEach [] X.env := by rfl) : DX X LK W ff (.Call (.Name "ord" p) [a] [] pos) (e1 (un1 ordD) ta) :=
  dx_call1 call_ord (fun G L δ σ H x sx R Q rel hx h q => by
    obtain ⟨d, ed, h⟩ := wD_out h
    have h1 := asD_ok ed hx
    cases d <;> first | exact h.elim | skip
    cases h1
    exact ⟨_, rfl, h.1, q _ _ H h.2 (Step.refl _ _) rel (res_sc fun _ => Dp.int _)⟩) hg hm (by decide +kernel) ha (by decide) (by decide) hs
theorem dx_strc (hg : Gl X "str") (hm : X.mg "str" = none) (ha : DX X LK W fa a ta) (hs : starEach [a] X.env = (false, eval a X.env) :: starEach [] X.env := by rfl) : DX X LK W ff (.Call (.Name "str" p) [a] [] pos) (e1 (un1 strD) ta) :=
  dx_ty1 (CallR.or call_str_int SkE.call_str_str) (fun G L δ σ H x sx R Q rel hx h q => by
    obtain ⟨d, ed, h⟩ := wD_out h
    have h1 := asD_ok ed hx
    cases d <;> first | exact h.elim | skip
    · cases h1
      exact .inl ⟨_, rfl, h.1, q _ _ H h.2 (Step.refl _ _) rel (res_sc fun _ => Dp.str _)⟩
    · cases h1
      exact .inr ⟨_, rfl, q _ _ H h (Step.refl _ _) rel (res_sc fun _ => Dp.str _)⟩) hg hm (by decide +kernel) ha (by decide) (by decide) hs
def tupD : PyData → (SV → Prop) → Prop := fun x R => match x with
  | .list xs => nolistA xs = true ∧ R (.d (.tuple xs))
  | .tuple xs => nolistA xs = true ∧ R (.d (.tuple xs))
  | _ => False
def lstD : PyData → (SV → Prop) → Prop := fun x R => match x with
  | .list xs => nolistA xs = true ∧ R (.own xs)
  | .tuple xs => nolistA xs = true ∧ R (.own xs)
  | _ => False
@[simp] theorem tupD_lst (xs : List PyData) (R : SV → Prop) : tupD (.list xs) R = (nolistA xs = true ∧ R (.d (.tuple xs))) := rfl
@[simp] theorem tupD_tup (xs : List PyData) (R : SV → Prop) : tupD (.tuple xs) R = (nolistA xs = true ∧ R (.d (.tuple xs))) := rfl
@[simp] theorem lstD_lst (xs : List PyData) (R : SV → Prop) : lstD (.list xs) R = (nolistA xs = true ∧ R (.own xs)) := rfl
@[simp] theorem lstD_tup (xs : List PyData) (R : SV → Prop) : lstD (.tuple xs) R = (nolistA xs = true ∧ R (.own xs)) := rfl
theorem dx_tupc (hg : Gl X "tuple") (hm : X.mg "tuple" = none) (ha : DX X LK W fa a ta) (hs : starEach [a] X.env = (false, eval a X.env) :: starEach [] X.env := by rfl) : DX X LK W ff (.Call (.Name "tuple" p) [a] [] pos) (e1 (un1 tupD) ta) :=
  dx_ty1 call_tuple_of (fun G L δ σ H x sx R Q rel hx h q => by
    obtain ⟨d, ed, h⟩ := wD_out h
    have h1 := asD_ok ed hx
    cases d <;> first | exact h.elim | skip
    · cases h1 with
      | lst s dd =>
        exact ⟨_, _, rfl, .inl ⟨hid_sqL s, fun l hl => q _ _ _ h.2 (rel.stepNew hl) (rel.new hl) (res_new rel hl (Dp.tup (SqT.of (new_at rel hl)) (dpA_mono (new_mono rel hl) _ _ (rel.keepA h.1 dd))))⟩⟩
    · obtain ⟨p, vs, rfl, s, dd⟩ := dp_tup h1
      exact ⟨_, _, rfl, .inr ⟨hid_sqT s, q _ _ H h.2 (Step.refl _ _) rel ⟨rel.keep (by simpa [nolist] using h.1) h1, fun _ z => nomatch z⟩⟩⟩) hg hm (by decide +kernel) ha (by decide) (by decide) hs
theorem dx_lstc (hg : Gl X "list") (hm : X.mg "list" = none) (ha : DX X LK W fa a ta) (hs : starEach [a] X.env = (false, eval a X.env) :: starEach [] X.env := by rfl) : DX X LK W ff (.Call (.Name "list" p) [a] [] pos) (e1 (un1 lstD) ta) :=
  dx_ty1 call_list_of (fun G L δ σ H x sx R Q rel hx h q => by
    obtain ⟨d, ed, h⟩ := wD_out h
    have h1 := asD_ok ed hx
    cases d <;> first | exact h.elim | skip
    · cases h1 with
      | lst s dd =>
        exact ⟨_, _, rfl, .inl (hid_sqL s), fun l hl => q _ _ _ h.2 (rel.stepNew hl) (rel.new hl) (res_new rel hl ⟨l, _, rfl, new_at rel hl, dpA_mono (new_mono rel hl) _ _ (rel.keepA h.1 dd)⟩)⟩
    · obtain ⟨p, vs, rfl, s, dd⟩ := dp_tup h1
      exact ⟨_, _, rfl, .inr (hid_sqT s), fun l hl => q _ _ _ h.2 (rel.stepNew hl) (rel.new hl) (res_new rel hl ⟨l, _, rfl, new_at rel hl, dpA_mono (new_mono rel hl) _ _ (rel.keepA h.1 dd)⟩)⟩) hg hm (by decide +kernel) ha (by decide) (by decide) hs
/-- ints, any number of them -/
def sortedD : PyData → (SV → Prop) → Prop := fun x R => match x with
  | .list xs => ∃ ns : List Int, xs = ns.map .int ∧ ∀ ns' : List Int, ns'.Perm ns → ns'.Pairwise (· ≤ ·) → R (.own (ns'.map .int))
  | _ => False
theorem dpA_ints {K : PySem.W.Frag} {M : Hp} : ∀ {ns : List Int} {vs : List V}, DpAll K M vs (ns.map .int) → vs = ns.map V.int
  | [], _, h => by cases h; rfl
  | n :: ns, _, h => by
    cases h with
    | cons h1 h2 => cases h1; rw [dpA_ints h2]; rfl
theorem dpA_of_ints {K : PySem.W.Frag} {M : Hp} : ∀ (ns : List Int), DpAll K M (ns.map V.int) (ns.map .int)
  | [] => .nil
  | n :: ns => .cons (.int n) (dpA_of_ints ns)
theorem dx_sorted (hg : Gl X "sorted") (hm : X.mg "sorted" = none) (ha : DX X LK W fa a ta) (hs : starEach [a] X.env = (false, eval a X.env) :: starEach [] X.env := by rfl) : DX X LK W ff (.Call (.Name "sorted" p) [a] [] pos) (e1 (un1 sortedD) ta) :=
  dx_call1 cr_sortedI (fun G L δ σ H x sx R Q rel hx h q => by
    obtain ⟨d, ed, h⟩ := wD_out h
    have h1 := asD_ok ed hx
    cases d <;> first | exact h.elim | skip
    cases h1 with
    | lst s dd =>
      obtain ⟨ns, rfl, h⟩ := h
      have ev := dpA_ints dd
      subst ev
      exact ⟨_, ns, rfl, hid_sqL s, fun ns' p pm pw hp => q _ _ _ (h ns' pm pw) (rel.stepNew hp) (rel.new hp) (res_new rel hp ⟨p, _, rfl, new_at rel hp, dpA_of_ints ns'⟩)⟩) hg hm (by decide +kernel) ha (by decide) (by decide) hs
/-! ### slices -/
abbrev TDo := DS → (Option Int → Prop) → (Exn → Prop) → Prop
def liftO (K : PySem.W.Frag) (LK : Lk) (W : WX) (to : TDo) : TO := fun σ H Q =>
  ∃ (G : Gd) (L : Ls) (δ : DS) (R : Option Int → Prop) (RX : Exn → Prop), Rel K LK G L δ σ H ∧ to δ R RX ∧
    (∀ o L' H', R o → Step L H L' H' → Rel K LK G L' δ σ H' → Q o H') ∧ (∀ x c d L' H', RX x → Step L H L' H' → LkOk LK L' H' → ExOk K (nw G (hid L' H')) x c d → W c d σ H')
def DO (X : Cx) (LK : Lk) (W : WX) (e : Option Expr) (to : TDo) : Prop := PO X e (liftO X.K LK W to)
theorem po_imp {e : Option Expr} {t t' : TO} (h : PO X e t) (i : ∀ σ H Q, t' σ H Q → t σ H Q) : PO X e t' := ⟨fun pins s σ H Q I q => h.run pins s σ H Q I (i σ H Q q)⟩
@[simp] def oNone : TDo := fun _ R _ => R none
theorem do_none : DO X LK W none oNone := po_imp po_none fun σ H Q ⟨G, L, δ, R, RX, rel, r, q, _⟩ => q none L H r (Step.refl _ _) rel
def wI (sv : SV) (R : Int → Prop) : Prop := match sv with
  | .d (.int i) => R i
  | _ => False
@[simp] theorem wI_int (i : Int) (R : Int → Prop) : wI (.d (.int i)) R = R i := rfl
theorem wI_out {K : PySem.W.Frag} {M : Hp} {L : Ls} {v : V} {sv : SV} {R : Int → Prop} (h : wI sv R) (o : SvOk K M L v sv) : ∃ i, v = .int i ∧ sv = .d (.int i) ∧ R i := by
  unfold wI at h
  split at h
  · cases o; exact ⟨_, rfl, rfl, h⟩
  · exact h.elim
@[simp] def oSome (ta : TDe) : TDo := fun δ R RX => ta δ (fun sv => wI sv fun i => R (some i)) RX
theorem do_some (h : DX X LK W fa a ta) : DO X LK W (some a) (oSome ta) :=
  po_imp (po_some h) fun σ H Q ⟨G, L, δ, R, RX, rel, r, q, qx⟩ => ⟨G, L, δ, _, RX, rel, r, fun sv v L' H' hw st rel' res => by
    obtain ⟨i, rfl, rfl, hi⟩ := wI_out hw res.1
    exact ⟨i, rfl, q _ L' H' hi st rel'⟩, qx⟩
def cutL {α : Type} (xs : List α) (lo hi : Option Int) : List α := (xs.drop (HT.sIx xs.length 0 lo)).take (HT.sIx xs.length xs.length hi - HT.sIx xs.length 0 lo)
theorem cutL_dp {K : PySem.W.Frag} {M : Hp} {vs : List V} {ds : List PyData} (lo hi : Option Int) (h : DpAll K M vs ds) : DpAll K M (cutV vs lo hi) (cutL ds lo hi) := by
  unfold cutV cutL
  rw [dpA_len h]
  exact dpA_take _ (dpA_drop _ h)
theorem nolistA_mem : ∀ {ds : List PyData}, nolistA ds = true ↔ ∀ d ∈ ds, nolist d = true
  | [] => by simp [nolistA]
  | d :: ds => by simp [nolistA, nolistA_mem (ds := ds)]
theorem cutL_nol {ds : List PyData} (lo hi : Option Int) (h : nolistA ds = true) : nolistA (cutL ds lo hi) = true :=
  nolistA_mem.mpr fun d hd => nolistA_mem.mp h d (List.mem_of_mem_drop (List.mem_of_mem_take hd))
def slD (x : PyData) (lo hi : Option Int) (R : SV → Prop) : Prop := match x with
  | .str s => s.length ≤ sizeLine ∧ R (.d (.str (cutS s lo hi)))
  | .tuple xs => nolistA xs = true ∧ R (.d (.tuple (cutL xs lo hi)))
  | .list xs => nolistA xs = true ∧ R (.own (cutL xs lo hi))
  | _ => False
@[simp] theorem slD_str (s : Str) (lo hi : Option Int) (R : SV → Prop) : slD (.str s) lo hi R = (s.length ≤ sizeLine ∧ R (.d (.str (cutS s lo hi)))) := rfl
@[simp] theorem slD_tup (xs : List PyData) (lo hi : Option Int) (R : SV → Prop) : slD (.tuple xs) lo hi R = (nolistA xs = true ∧ R (.d (.tuple (cutL xs lo hi)))) := rfl
@[simp] theorem slD_lst (xs : List PyData) (lo hi : Option Int) (R : SV → Prop) : slD (.list xs) lo hi R = (nolistA xs = true ∧ R (.own (cutL xs lo hi))) := rfl
@[simp] def eSl (ta : TDe) (tl th : TDo) : TDe := fun δ R RX => ta δ (fun sx => tl δ (fun l => th δ (fun h => wD sx fun x => slD x l h R) RX) RX) RX
theorem dx_slice {lo hi : Option Expr} {tl th : TDo} {p2 : Pos} (ha : DX X LK W fa a ta) (hl : DO X LK W lo tl) (hh : DO X LK W hi th) : DX X LK W ff (.Subscript a (.Slice lo hi none p2) pos) (eSl ta tl th) :=
  pe_imp (pe_slice (SlR.or sl_str (SlR.or sl_tupA sl_list)) ha hl hh) fun σ H Q ⟨G, L, δ, R, RX, rel, r, q, qx⟩ => ⟨G, L, δ, _, RX, rel, r, fun sx x L1 H1 hx st1 rel1 res1 =>
    ⟨G, L1, δ, _, RX, rel1, hx, fun l L2' H2 hl st2 rel2 => ⟨G, L2', δ, _, RX, rel2, hl, fun h L3 H3 hw st3 rel3 => by
      obtain ⟨d, ed, hd⟩ := wD_out hw
      have st := st1.trans (st2.trans st3)
      have h1 := asD_ok ed ((res1.step (st2.trans st3)).b (fz_le _ _ _ _))
      cases d <;> first | exact hd.elim | skip
      · cases h1
        exact .inl ⟨_, rfl, hd.1, q _ _ L3 H3 hd.2 st rel3 (res_sc fun _ => Dp.str _)⟩
      · cases h1 with
        | lst s dd =>
          exact .inr (.inr ⟨_, _, rfl, hid_sqL s, fun p hp => q (.own (cutL _ l h)) (.ref p) _ _ hd.2 (st.trans (rel3.stepNew hp)) (rel3.new hp) ((res_new (sv := .own (cutL _ l h)) rel3 hp ⟨p, _, rfl, new_at rel3 hp, cutL_dp l h (dpA_mono (new_mono rel3 hp) _ _ (rel3.keepA hd.1 dd))⟩).back st)⟩)
      · obtain ⟨p, vs, rfl, s, dd⟩ := dp_tup h1
        refine .inr (.inl ⟨_, _, rfl, hid_sqT s, fun hw => ?_, fun _ p hp => ?_⟩)
        · refine q _ _ L3 H3 hd.2 st rel3 ⟨?_, fun _ z => nomatch z⟩
          rename_i ds
          have e : cutL ds l h = ds := by
            unfold cutL
            rw [← dpA_len dd, hw.1, hw.2, dpA_len dd]
            simp
          rw [e]
          exact rel3.keep (by simpa [nolist] using hd.1) h1
        · exact q (.d (.tuple (cutL _ l h))) (.ref p) _ _ hd.2 (st.trans (rel3.stepNew hp)) (rel3.new hp) ((res_new (sv := .d (.tuple (cutL _ l h))) rel3 hp (Dp.tup (SqT.of (new_at rel3 hp)) (cutL_dp l h (dpA_mono (new_mono rel3 hp) _ _ (rel3.keepA hd.1 dd))))).back st),
      fun x c d L' H' h st lk ex => qx x c d L' H' h (st1.trans (st2.trans st)) lk ex⟩, fun x c d L' H' h st lk ex => qx x c d L' H' h (st1.trans st) lk ex⟩, qx⟩
end
end DL

namespace DL
open PySem PySem.Spec PyProof.Rows L2

section
variable {X : Cx} {LK : Lk} {W : WX} {fl fa fb' : Fl} {e a b c tg iter elt : Expr} {es : List Expr} {pos p : Pos} {ta tb tc te : TDe} {tt tu : TDt} {tas : TDa} {st : Stmt} {rest body : List Stmt} {t u : TDs}
/-! ### what is walked -/
def rangeD (lo : Int) (n : Nat) : List PyData := (List.range n).map fun (k : Nat) => .int (lo + k)
theorem rangeD_len (lo : Int) (n : Nat) : (rangeD lo n).length = n := by simp [rangeD]
theorem itOk_range {K : PySem.W.Frag} (lo : Int) (n : Nat) (MS MI : Hp) : ItOk K (rangeD lo n) (Itr lo n) MS MI := by
  refine ⟨fun i H _ h => by rw [rangeD_len] at h; exact h, fun i H _ h => by rw [rangeD_len] at h; exact Nat.le_of_eq h.symm, fun i H x H' _ hi h => ?_⟩
  obtain ⟨e1, e2⟩ := h
  subst e1; subst e2
  rw [rangeD_len] at hi
  exact ⟨_, by simp [rangeD, hi], .inl ⟨rfl, Dp.int _⟩⟩
theorem itOk_list {K : PySem.W.Frag} {ad : Addr} {vs : List V} {ds : List PyData} {MS MI : Hp} (s : SqL K MS ad vs) (d : DpAll K MI vs ds) : ItOk K ds (Itl K ad) MS MI := by
  have hl := dpA_len d
  refine ⟨fun i H sm hi => ⟨vs, vs[i]'(by omega), sm.seq s, by simp [hl, hi]⟩, fun i H sm hi => ⟨vs, sm.seq s, by omega⟩, fun i H x H' sm hi h => ?_⟩
  obtain ⟨e1, h⟩ := h
  have hx := h vs (sm.seq s)
  obtain ⟨dd, h1, h2⟩ := dpA_get d hx
  exact ⟨dd, h1, .inl ⟨e1, h2⟩⟩
theorem itOk_tup {K : PySem.W.Frag} {ad : Addr} {vs : List V} {ds : List PyData} {MS MI : Hp} (s : SqT K MS ad vs) (d : DpAll K MI vs ds) : ItOk K ds (Itt K ad) MS MI := by
  have hl := dpA_len d
  refine ⟨fun i H sm hi => ⟨vs, vs[i]'(by omega), same_sqT sm s, by simp [hl, hi]⟩, fun i H sm hi => ⟨vs, same_sqT sm s, by omega⟩, fun i H x H' sm hi h => ?_⟩
  obtain ⟨e1, h⟩ := h
  have hx := h vs (same_sqT sm s)
  obtain ⟨dd, h1, h2⟩ := dpA_get d hx
  exact ⟨dd, h1, .inl ⟨e1, h2⟩⟩
def signsD (s : Str) : List PyData := s.cps.toList.map fun c => .str ⟨#[c]⟩
theorem itOk_str {K : PySem.W.Frag} (s : Str) (MS MI : Hp) : ItOk K (signsD s) (Its s) MS MI := by
  have hl : (signsD s).length = s.cps.size := by simp [signsD]
  refine ⟨fun i H _ h => by rw [hl] at h; exact h, fun i H _ h => by rw [hl] at h; exact Nat.le_of_eq h.symm, fun i H x H' _ hi h => ?_⟩
  obtain ⟨e1, c, hc, e2⟩ := h
  subst e1; subst e2
  refine ⟨.str ⟨#[c]⟩, ?_, .inl ⟨rfl, Dp.str _⟩⟩
  have : s.cps.toList[i]? = some c := by rw [Array.getElem?_toList]; exact hc
  simp [signsD, this]
/-- a list, a tuple or a text -/
def iSeq (K : PySem.W.Frag) (tl : TE) : TI := fun σ H R => tl σ H fun x H1 =>
  (∃ ad, x = .ref ad ∧ (∃ xs, SqL K H1 ad xs) ∧ R (Itl K ad) H1) ∨ (∃ ad, x = .ref ad ∧ (∃ xs, SqT K H1 ad xs) ∧ R (Itt K ad) H1) ∨ ∃ s, x = .str s ∧ R (Its s) H1
theorem pi_seq {l : Expr} {tl : TE} (hl : PE X l tl) : PI X tg l (iSeq X.K tl) := by
  constructor
  intro pins s σ H R I h
  refine thn (hl.run pins s σ H _ I h) ?_
  rintro v s1 ⟨x, H1, I1, r1, q1⟩
  rcases q1 with ⟨ad, ex, ⟨xs, hq⟩, q⟩ | ⟨ad, ex, ⟨xs, hq⟩, q⟩ | ⟨z, ex, q⟩
  · subst ex
    cases r1
    obtain ⟨its, _, pl, _⟩ := I1.list hq
    exact wpAny_pyIter_list pl.isList (pi_one (tk := s1.toks) I1 _ (turn_list ad _) ⟨_, Heap.get?_push_size _ rfl, rfl, rfl⟩ q)
  · subst ex
    cases r1
    obtain ⟨its, _, pl, _⟩ := I1.tuple hq
    exact wpAny_pyIter_tuple (show s1.heap.IsTuple ad its.toArray from pl) (pi_one (tk := s1.toks) I1 _ (turn_tuple ad _) ⟨_, Heap.get?_push_size _ rfl, rfl, rfl⟩ q)
  · subst ex
    obtain ⟨tk, rfl⟩ := r1
    cases asc : z.cps.all (· < 128) with
    | false => exact wpAny_pyIter_wide asc (pi_one (tk := s1.toks) I1 _ (turn_str _ z tk "str_iterator" (.inr rfl)) ⟨_, Heap.get?_push_size _ rfl, rfl, rfl⟩ q)
    | true => exact wpAny_pyIter_ascii asc (pi_one (tk := s1.toks) I1 _ (turn_str _ z tk "str_ascii_iterator" (.inl rfl)) ⟨_, Heap.get?_push_size _ rfl, rfl, rfl⟩ q)
def seqV (sv : SV) (R : List PyData → Prop) : Prop := match sv with
  | .d (.list xs) => R xs
  | .d (.tuple xs) => R xs
  | .d (.str s) => R (signsD s)
  | .own xs => R xs
  | _ => False
@[simp] theorem seqV_lst (xs : List PyData) (R : List PyData → Prop) : seqV (.d (.list xs)) R = R xs := rfl
@[simp] theorem seqV_tup (xs : List PyData) (R : List PyData → Prop) : seqV (.d (.tuple xs)) R = R xs := rfl
@[simp] theorem seqV_str (s : Str) (R : List PyData → Prop) : seqV (.d (.str s)) R = R (signsD s) := rfl
@[simp] theorem seqV_own (xs : List PyData) (R : List PyData → Prop) : seqV (.own xs) R = R xs := rfl
/-- o: the walked thing stays even where a slot's list is written -/
theorem seq_it {G : Gd} {L L' : Ls} {δ : DS} {σ : L2.St} {H H' : Hp} {v : V} {sv : SV} {o : Bool} {Rd : List PyData → Prop} {Q : It → Hp → Prop} (ho : o = true → fl.o = true) (rel' : Rel X.K LK G L' δ σ H') (h : seqV sv fun ds => (fl.o = true ∨ nolistA ds = true) ∧ Rd ds)
    (res : Res X.K G fl (hid L H) (fz L' δ σ H') (hid L' H') L' v sv) (q : ∀ items J, Rd items → ItOk X.K items J (if o = true then fz L' δ σ H' else hid L' H') (fz L' δ σ H') → Q J H') :
    (∃ ad, v = .ref ad ∧ (∃ xs, SqL X.K H' ad xs) ∧ Q (Itl X.K ad) H') ∨ (∃ ad, v = .ref ad ∧ (∃ xs, SqT X.K H' ad xs) ∧ Q (Itt X.K ad) H') ∨ ∃ s, v = .str s ∧ Q (Its s) H' := by
  have mo : ∀ {x : PyData}, asD sv = some x → Dp X.K (if o = true then fz L' δ σ H' else hid L' H') v x := fun {x} e => by
    cases o with
    | true => rw [if_pos rfl]; exact dp_mono (pk_o (ho rfl)) _ _ (asD_ok e res.1)
    | false => rw [if_neg Bool.false_ne_true]; exact asD_ok e (res.b (fz_le _ _ _ _))
  have le : Same (if o = true then fz L' δ σ H' else hid L' H') H' := by
    cases o with
    | true => rw [if_pos rfl]; exact (fz_le _ _ _ _).trans (hid_le _ _)
    | false => rw [if_neg Bool.false_ne_true]; exact hid_le _ _
  have inj : ∀ {M M' : Hp} {ad : Addr} {xs ys : List V}, Same M M' → True := fun _ => trivial
  have items : ∀ {vs : List V} {ds : List PyData}, (fl.o = true ∨ nolistA ds = true) → DpAll X.K (if o = true then fz L' δ σ H' else hid L' H') vs ds → (fl.o = true → DpAll X.K (fz L' δ σ H') vs ds) → DpAll X.K (fz L' δ σ H') vs ds := fun {vs ds} on d1 d2 => by
    rcases on with on | on
    · exact d2 on
    · have dN : DpAll X.K (hid L' H') vs ds := by
        cases o with
        | true => rw [if_pos rfl] at d1; exact dpA_mono (fz_le _ _ _ _) _ _ d1
        | false => rw [if_neg Bool.false_ne_true] at d1; exact d1
      exact dpA_mono (nw_le _ _) _ _ (rel'.keepA on dN)
  cases hfo : fl.o with
  | true =>
    -- the value stands where no slot owns
    have dF : ∀ {x : PyData}, asD sv = some x → Dp X.K (fz L' δ σ H') v x := fun {x} e => dp_mono (pk_o hfo) _ _ (asD_ok e res.1)
    have sub : Same (fz L' δ σ H') (if o = true then fz L' δ σ H' else hid L' H') := by
      cases o with
      | true => rw [if_pos rfl]; exact Same.refl _
      | false => rw [if_neg Bool.false_ne_true]; exact fz_le _ _ _ _
    unfold seqV at h
    split at h
    · have d := dF rfl
      cases d with | lst s dd => exact .inl ⟨_, rfl, ⟨_, (sub.trans le).seq s⟩, q _ _ h.2 (itOk_list (sub.seq s) dd)⟩
    · obtain ⟨ad, vs, rfl, s, dd⟩ := dp_tup (dF rfl)
      exact .inr (.inl ⟨_, rfl, ⟨_, same_sqT (sub.trans le) s⟩, q _ _ h.2 (itOk_tup (same_sqT sub s) dd)⟩)
    · have d := dF rfl
      cases d
      exact .inr (.inr ⟨_, rfl, q _ _ h.2 (itOk_str _ _ _)⟩)
    · have d := dF rfl
      cases d with | lst s dd => exact .inl ⟨_, rfl, ⟨_, (sub.trans le).seq s⟩, q _ _ h.2 (itOk_list (sub.seq s) dd)⟩
    · exact h.elim
  | false =>
    have no : ∀ {P : Prop}, (fl.o = true ∨ P) → P := fun z => z.resolve_left (by rw [hfo]; decide)
    unfold seqV at h
    split at h
    · have d := mo rfl
      cases d with | lst s dd => exact .inl ⟨_, rfl, ⟨_, le.seq s⟩, q _ _ h.2 (itOk_list s (items h.1 dd fun z => by rw [hfo] at z; cases z))⟩
    · obtain ⟨ad, vs, rfl, s, dd⟩ := dp_tup (mo rfl)
      exact .inr (.inl ⟨_, rfl, ⟨_, same_sqT le s⟩, q _ _ h.2 (itOk_tup s (items h.1 dd fun z => by rw [hfo] at z; cases z))⟩)
    · have d := mo rfl
      cases d
      exact .inr (.inr ⟨_, rfl, q _ _ h.2 (itOk_str _ _ _)⟩)
    · have d := mo rfl
      cases d with | lst s dd => exact .inl ⟨_, rfl, ⟨_, le.seq s⟩, q _ _ h.2 (itOk_list s (items h.1 dd fun z => by rw [hfo] at z; cases z))⟩
    · exact h.elim
@[simp] def iSeqD (fl : Fl) (ta : TDe) : TDi := fun δ R RX => ta δ (fun sv => seqV sv fun ds => (fl.o = true ∨ nolistA ds = true) ∧ R ds) RX
theorem di_seq (o : Bool) (he : DX X LK W fl e ta) (ho : o = true → fl.o = true := by decide) : DI X LK W o tg e (iSeqD fl ta) :=
  pi_imp (pi_seq he) fun σ H Q ⟨G, L, δ, R, RX, rel, r, q, qx⟩ => ⟨G, L, δ, _, RX, rel, r, fun sv v L' H' hw st rel' res =>
    seq_it (fl := fl) ho rel' hw res fun items J hr ok => q items J L' H' hr st rel' ok, qx⟩
/-- a slot's own list, walked by a comprehension -/
def ownSeq (sv : SV) (R : List PyData → Prop) : Prop := match sv with
  | .own xs => R xs
  | .d (.list xs) => R xs
  | .d (.tuple xs) => R xs
  | .d (.str s) => R (signsD s)
  | _ => False
@[simp] theorem ownSeq_own (xs : List PyData) (R : List PyData → Prop) : ownSeq (.own xs) R = R xs := rfl
@[simp] theorem ownSeq_lst (xs : List PyData) (R : List PyData → Prop) : ownSeq (.d (.list xs)) R = R xs := rfl
@[simp] theorem ownSeq_tup (xs : List PyData) (R : List PyData → Prop) : ownSeq (.d (.tuple xs)) R = R xs := rfl
@[simp] theorem ownSeq_str (s : Str) (R : List PyData → Prop) : ownSeq (.d (.str s)) R = R (signsD s) := rfl
@[simp] def iVarD (i : Nat) : TDi := fun δ R _ => svAt δ i fun sv => ownSeq sv R
theorem di_var (i : Nat) {x : Str} (hN : X.N[i]? = some x := by rfl) (hv : Vis X.env.scope x := by first | exact Or.inl rfl | exact Or.inr (Or.inl rfl) | exact Or.inr (Or.inr rfl)) (hd : (x == ("__debug__" : Str)) = false := by decide) (hcd : (x == ("__classdict__" : Str)) = false := by decide) :
    DI X LK W false tg (.Name x pos) (iVarD i) :=
  pi_imp (pi_seq (pe_var hN hv hd hcd)) fun σ H Q ⟨G, L, δ, R, RX, rel, r, q, qx⟩ => by
    obtain ⟨sv, h1, h⟩ := svAt_out r
    obtain ⟨v, h2, h3⟩ := rel.sl i sv h1
    refine ⟨v, h2, ?_⟩
    have leF : Same (fz L δ σ H) (hid L H) := fz_le _ _ _ _
    unfold ownSeq at h
    split at h
    · obtain ⟨ad, vs, rfl, s, dd⟩ := h3
      exact .inl ⟨ad, rfl, ⟨vs, hid_sqL (SqL.of s)⟩, q _ _ L H h (Step.refl _ _) rel (itOk_list (SqL.of s) (dpA_mono (nw_le _ _) _ _ dd))⟩
    · cases h3 with | lst s dd => exact .inl ⟨_, rfl, ⟨_, hid_sqL (leF.seq s)⟩, q _ _ L H h (Step.refl _ _) rel (itOk_list (leF.seq s) dd)⟩
    · obtain ⟨ad, vs, rfl, s, dd⟩ := dp_tup h3
      exact .inr (.inl ⟨_, rfl, ⟨_, hid_sqT (same_sqT leF s)⟩, q _ _ L H h (Step.refl _ _) rel (itOk_tup (same_sqT leF s) dd)⟩)
    · cases h3
      exact .inr (.inr ⟨_, rfl, q _ _ L H h (Step.refl _ _) rel (itOk_str _ _ _)⟩)
    · exact h.elim
@[simp] def iRng1D (ta : TDe) : TDi := fun δ R RX => ta δ (fun sv => wI sv fun n => n < 2 ^ 62 ∧ -(2 ^ 62) ≤ n ∧ R (rangeD 0 n.toNat)) RX
theorem di_range1 (o : Bool) {p2 : Pos} (hg : Gl X "range") (hm : X.mg "range" = none) (ha : DX X LK W fa a ta) (hs : starEach [a] X.env = [(false, eval a X.env)] := by rfl) (hs' : starEach [a] X.env = (false, eval a X.env) :: starEach [] X.env := by rfl) :
    DI X LK W o tg (.Call (.Name "range" p) [a] [] p2) (iRng1D ta) :=
  pi_imp (pi_range1 hg hm (pa_cons ha pa_nil hs') hs) fun σ H Q ⟨G, L, δ, R, RX, rel, r, q, qx⟩ => ⟨G, L, δ, _, RX, rel, r, fun sv v L' H' hw st rel' res => by
    obtain ⟨n, rfl, rfl, h1, h2, h3⟩ := wI_out hw res.1
    exact ⟨n, rfl, h2, h1, q _ _ L' H' h3 st rel' (itOk_range _ _ _ _)⟩, qx⟩
@[simp] def iRng2D (ta tb : TDe) : TDi := fun δ R RX => ta δ (fun sv => tb δ (fun sw => wI sv fun m => wI sw fun n => (-(2 ^ 62) ≤ m ∧ m < 2 ^ 62 ∧ -(2 ^ 62) ≤ n ∧ n < 2 ^ 62) ∧ R (rangeD m (n - m).toNat)) RX) RX
theorem di_range2 (o : Bool) {p2 : Pos} (hg : Gl X "range") (hm : X.mg "range" = none) (ha : DX X LK W fa a ta) (hb : DX X LK W fb' b tb) (hs : starEach [a, b] X.env = [(false, eval a X.env), (false, eval b X.env)] := by rfl) (hs2 : starEach [b] X.env = [(false, eval b X.env)] := by rfl)
    (hs' : starEach [a, b] X.env = (false, eval a X.env) :: starEach [b] X.env := by rfl) (hs2' : starEach [b] X.env = (false, eval b X.env) :: starEach [] X.env := by rfl) :
    DI X LK W o tg (.Call (.Name "range" p) [a, b] [] p2) (iRng2D ta tb) :=
  pi_imp (pi_range2 hg hm (pa_cons ha (pa_cons hb pa_nil hs2') hs') hs hs2) fun σ H Q ⟨G, L, δ, R, RX, rel, r, q, qx⟩ => ⟨G, L, δ, _, RX, rel, r, fun sv v L1 H1 hx st1 rel1 res1 =>
    ⟨G, L1, δ, _, RX, rel1, hx, fun sw u L2' H2 hw st2 rel2 res2 => by
      obtain ⟨m, rfl, rfl, hw2⟩ := wI_out hw res1.1
      obtain ⟨n, rfl, rfl, h1, h2⟩ := wI_out hw2 res2.1
      exact ⟨m, n, rfl, h1, q _ _ L2' H2 h2 (st1.trans st2) rel2 (itOk_range _ _ _ _)⟩, fun x c d L' H' h st lk ex => qx x c d L' H' h (st1.trans st) lk ex⟩, qx⟩
/-! ### comprehensions -/
def WF : WX := fun _ _ _ _ => False
def wipeD (δ : DS) : List Nat → DS
  | [] => δ
  | v :: vs => (wipeD δ vs).set v none
theorem wipeD_get {δ : DS} {i : Nat} {sv : SV} : ∀ {vs : List Nat}, (wipeD δ vs)[i]? = some (some sv) → δ[i]? = some (some sv) ∧ i ∉ vs
  | [], h => ⟨h, by simp⟩
  | v :: vs, h => by
    unfold wipeD at h
    by_cases hi : v = i
    · subst hi
      rw [List.getElem?_set] at h
      split at h
      · split at h <;> cases h
      · exact absurd rfl ‹¬ v = v›
    · rw [List.getElem?_set_ne hi] at h
      obtain ⟨h1, h2⟩ := wipeD_get h
      exact ⟨h1, by simp only [List.mem_cons, not_or]; exact ⟨fun e => hi e.symm, h2⟩⟩
theorem wipe_keep {σ : L2.St} {i : Nat} : ∀ {vs : List Nat}, i ∉ vs → (wipe σ vs)[i]? = σ[i]?
  | [], _ => rfl
  | v :: vs, h => by
    simp only [List.mem_cons, not_or] at h
    unfold L2.wipe
    rw [List.getElem?_set_ne (fun z => h.1 z.symm)]
    exact wipe_keep h.2
theorem wipeD_len (δ : DS) : ∀ vs : List Nat, (wipeD δ vs).length = δ.length
  | [] => rfl
  | v :: vs => by unfold wipeD; rw [List.length_set, wipeD_len δ vs]
theorem rel_wipe {K : PySem.W.Frag} {G : Gd} {L : Ls} {δ : DS} {σ : L2.St} {H : Hp} (vs : List Nat) (rel : Rel K LK G L δ σ H) : Rel K LK G L (wipeD δ vs) (wipe σ vs) H := by
  have ow : ∀ a, OwnA (wipeD δ vs) (wipe σ vs) a → OwnA δ σ a := fun a ⟨i, sv, h1, h2, h3⟩ => by
    obtain ⟨g1, g2⟩ := wipeD_get h1
    exact ⟨i, sv, g1, h2, by rw [wipe_keep g2] at h3; exact h3⟩
  have sub : Same (fz L δ σ H) (fz L (wipeD δ vs) (wipe σ vs) H) := fun a o h => fz_of (fz_le _ _ _ _ _ _ h) fun z => fz_not h (ow a z)
  refine ⟨rel.gn, rel.g.trans sub, rel.lk, fun i sv h => ?_, fun i j a si sj hij h1 h2 o1 o2 e1 e2 => ?_, by rw [wipeD_len, L2.wipe_length]; exact rel.ln⟩
  · obtain ⟨g1, g2⟩ := wipeD_get h
    obtain ⟨v, h1, h2⟩ := rel.sl i sv g1
    exact ⟨v, by rw [wipe_keep g2]; exact h1, slotOk_mono sub (Same.refl _) (fun _ z => z) h2⟩
  · obtain ⟨g1, k1⟩ := wipeD_get h1
    obtain ⟨g2, k2⟩ := wipeD_get h2
    rw [wipe_keep k1] at e1
    rw [wipe_keep k2] at e2
    exact rel.ow i j a si sj hij g1 g2 o1 o2 e1 e2
/-- what a comprehension may keep: data without lists, a new list of such -/
def itemV (sv : SV) (R : PyData → Prop) : Prop := match sv with
  | .d x => nolist x = true ∧ R x
  | .own xs => nolistA xs = true ∧ R (.list xs)
  | _ => False
@[simp] theorem itemV_d (x : PyData) (R : PyData → Prop) : itemV (.d x) R = (nolist x = true ∧ R x) := rfl
@[simp] theorem itemV_own (x : List PyData) (R : PyData → Prop) : itemV (.own x) R = (nolistA x = true ∧ R (.list x)) := rfl
def lcL (g : TDg) (tt : TDt) (te : TDe) (δ : DS) : List PyData → List PyData → (List PyData → Prop) → Prop
  | [], acc, R => R acc
  | x :: r, acc, R => g x δ fun δ1 => tt δ1 (fun b => if b = true then te δ1 (fun sv => itemV sv fun d => lcL g tt te δ r (acc ++ [d]) R) (fun _ => False) else lcL g tt te δ r acc R) (fun _ => False)
def DTs (X : Cx) (LK : Lk) (W : WX) (es : List Expr) (tt : TDt) : Prop := PTs X es (liftT X.K LK W tt)
theorem pts_imp {es : List Expr} {t t' : TT} (h : PTs X es t) (i : ∀ σ H Q, t' σ H Q → t σ H Q) : PTs X es t' := ⟨fun pins s σ H Q I q => h.run pins s σ H Q I (i σ H Q q)⟩
@[simp] def tYesD : TDt := fun _ R _ => R true
theorem dts_nil : DTs X LK W [] tYesD := pts_imp pts_nil fun σ H Q ⟨G, L, δ, R, RX, rel, r, q, _⟩ => q true L H r (Step.refl _ _) rel
theorem dts_one (h : DT X LK W c tt) : DTs X LK W [c] tt := pts_one h
end
end DL

namespace DL
open PySem PySem.Spec PyProof.Rows L2

section
variable {X : Cx} {LK : Lk} {W : WX} {fl fa fb' : Fl} {e a b c tg iter elt : Expr} {es : List Expr} {pos p : Pos} {ta tb tc te : TDe} {tt tu : TDt} {tas : TDa} {st : Stmt} {rest body : List Stmt} {t u : TDs}
def minus (D : Addr) (F : Hp) : Hp := fun a => if a = D then none else F a
theorem minus_of {D a : Addr} {F : Hp} {o : HO} (h : F a = some o) (n : a ≠ D) : minus D F a = some o := by unfold minus; rw [if_neg n]; exact h
theorem minus_le (D : Addr) (F : Hp) : Same (minus D F) F := fun a o h => by
  unfold minus at h
  split at h
  · cases h
  · exact h
theorem minus_ne {D a : Addr} {F : Hp} {o : HO} (h : minus D F a = some o) : a ≠ D := fun z => by
  unfold minus at h
  rw [if_pos z] at h; cases h
def lcD (ti : TDi) (g : TDg) (tt : TDt) (te : TDe) (vs : List Nat) : TDe := fun δ R RX => ti δ (fun items => items.length ≤ 10000000 ∧ lcL g tt te (wipeD δ vs) items [] (fun acc => R (.own acc))) RX
theorem wipe_in (σ : L2.St) {i : Nat} : ∀ {vs : List Nat}, i ∈ vs → (wipe σ vs)[i]? = if i < σ.length then some none else none
  | [], h => by simp at h
  | j :: vs, h => by
    unfold L2.wipe
    by_cases e : j = i
    · subst e
      rw [List.getElem?_set]
      simp [L2.wipe_length]
    · rw [List.getElem?_set_ne e]
      exact wipe_in σ (by
        rcases List.mem_cons.mp h with z | z
        · exact absurd z.symm e
        · exact z)
theorem wipe_idem (σ : L2.St) (vs : List Nat) : wipe (wipe σ vs) vs = wipe σ vs := by
  refine List.ext_getElem? fun i => ?_
  by_cases h : i ∈ vs
  · rw [wipe_in _ h, wipe_in _ h, L2.wipe_length]
  · rw [wipe_keep h]
/-- a list comprehension of one for -/
theorem tLc_dx {tv : List Nat} {ti : TDi} {g : TDg} {vs : List Nat} (htv : ∀ i ∈ tv, i ∈ vs) {σ : L2.St} {H : Hp} {Q : VK} (h : lift X.K LK W ff (lcD ti g tt te vs) σ H Q) :
    tLc (liftI X.K LK W false ti) (liftG X.K LK tv g) (liftT X.K LK WF tt) (lift X.K LK WF ff te) vs σ H Q := by
  obtain ⟨G, L, δ, R, RX, rel, r, q, qx⟩ := h
  refine ⟨G, L, δ, _, RX, rel, r, fun items J L1 H1 ⟨hlen, hL⟩ st1 rel1 ok D hD => ?_, qx⟩
  rw [if_neg Bool.false_ne_true] at ok
  obtain ⟨og, os, oy⟩ := ok
  have nL1 : L1 D = false := rel1.loose hD
  have nN1 : hid L1 H1 D = none := hid_none hD
  have nOwn : ¬ OwnA δ σ D := fun z => by
    obtain ⟨u, e, _⟩ := rel1.ownN z
    rw [nN1] at e; cases e
  have nG : ∀ {b : Addr}, hid L1 H1 b = none → G.n b = none := fun {b} hb => by
    cases z : G.n b with
    | none => rfl
    | some o =>
      have := fz_le _ _ _ _ _ _ (rel1.gF _ _ z)
      rw [hb] at this; cases this
  refine ⟨fun i m H' => m = items.length - i ∧ i ≤ items.length ∧ ∃ L' accd accv, Step L1 H1 L' H' ∧ LkOk LK L' H' ∧ L' D = false ∧ H' D = some (.lst accv) ∧ accv.length ≤ i ∧ DpAll X.K (nw G (minus D (fz L' δ σ H'))) accv accd ∧
    lcL g tt te (wipeD δ vs) (items.drop i) accd (fun acc => R (.own acc)),
    ⟨items.length, by simp, Nat.zero_le _, L1, [], [], rel1.stepNew hD, (rel1.new hD).lk, nL1, upd_same, Nat.le_refl _, .nil, by simpa using hL⟩, ?_⟩
  rintro i m H' ⟨rfl, hi, L', accd, accv, st, lk, nL, hHD, hal, hacc, hl⟩
  have rel' : Rel X.K LK G L' δ σ H' := rel1.step st lk
  have sm : Same (hid L1 H1) H' := st.1.trans (hid_le _ _)
  have nD : hid L' H' D = some (.lst accv) := hid_of nL hHD rfl
  by_cases hlt : i < items.length
  · refine .inr ⟨og i H' sm hlt, fun H5 => ∃ L5 accd5 accv5, Step L1 H1 L5 H5 ∧ LkOk LK L5 H5 ∧ L5 D = false ∧ H5 D = some (.lst accv5) ∧ accv5.length ≤ i + 1 ∧ DpAll X.K (nw G (minus D (fz L5 δ σ H5))) accv5 accd5 ∧
      lcL g tt te (wipeD δ vs) (items.drop (i + 1)) accd5 (fun acc => R (.own acc)), fun H5 h5 => ⟨_, by omega, rfl, hlt, h5⟩, fun x H2 hy => ?_⟩
    obtain ⟨d, hd, hx⟩ := oy i H' x H2 sm hlt hy
    have ed : items.drop i = d :: items.drop (i + 1) := by
      rw [List.drop_eq_getElem_cons hlt]
      rw [List.getElem?_eq_getElem hlt] at hd
      cases hd; rfl
    rw [ed] at hl
    -- one turn, over the heap with the walked item
    have turn : ∀ {H2 : Hp}, Step L' H' L' H2 → LkOk LK L' H2 → Dp X.K (fz L' δ σ H2) x d → liftG X.K LK tv g x (wipe σ vs) H2 fun σ2 H2' => wipe σ2 vs = wipe σ vs ∧ liftT X.K LK WF tt σ2 H2' fun b H3 =>
        if b = true then lift X.K LK WF ff te σ2 H3 fun y H4 => ∃ acc, H4 D = some (.lst acc) ∧ acc.length < sizeLine ∧ (∃ L5 accd5 accv5, Step L1 H1 L5 (upd H4 D (.lst (acc ++ [y]))) ∧ LkOk LK L5 (upd H4 D (.lst (acc ++ [y]))) ∧ L5 D = false ∧ (upd H4 D (.lst (acc ++ [y]))) D = some (.lst accv5) ∧ accv5.length ≤ i + 1 ∧ DpAll X.K (nw G (minus D (fz L5 δ σ (upd H4 D (.lst (acc ++ [y])))))) accv5 accd5 ∧
          lcL g tt te (wipeD δ vs) (items.drop (i + 1)) accd5 (fun acc => R (.own acc)))
        else (∃ L5 accd5 accv5, Step L1 H1 L5 H3 ∧ LkOk LK L5 H3 ∧ L5 D = false ∧ H3 D = some (.lst accv5) ∧ accv5.length ≤ i + 1 ∧ DpAll X.K (nw G (minus D (fz L5 δ σ H3))) accv5 accd5 ∧
          lcL g tt te (wipeD δ vs) (items.drop (i + 1)) accd5 (fun acc => R (.own acc))) := fun {H2} st2 lk2 dx => by
      have rel2 := rel'.step st2 lk2
      have relw := rel_wipe vs rel2
      have subw : Same (fz L' δ σ H2) (fz L' (wipeD δ vs) (wipe σ vs) H2) := fun b o hb => fz_of (fz_le _ _ _ _ _ _ hb) fun ⟨j, sv, h1, h2, h3⟩ => by
        obtain ⟨g1, g2⟩ := wipeD_get h1
        rw [wipe_keep g2] at h3
        exact fz_not hb ⟨j, sv, g1, h2, h3⟩
      refine ⟨G, L', wipeD δ vs, d, _, relw, dp_mono subw _ _ dx, hl, fun δ1 σ1 h1 oa r1 => ⟨(oa vs htv).trans (wipe_idem σ vs), G, L', δ1, _, _, r1, h1, fun bb L3 H3 hb st3 rel3 => ?_, fun _ _ _ _ _ h => h.elim⟩⟩
      have st13 : Step L1 H1 L3 H3 := st.trans (st2.trans st3)
      have nD3 : hid L3 H3 D = some (.lst accv) := (st2.trans st3).1 _ _ nD
      have l3 : L3 D = false := hid_nl nD3
      have subF : ∀ {L4 : Ls} {H4 : Hp}, Step L' H' L4 H4 → Same (minus D (fz L' δ σ H')) (minus D (fz L4 δ σ H4)) := fun {L4 H4} s4 b o hb => minus_of (fz_step s4 _ _ (minus_le _ _ _ _ hb)) (minus_ne hb)
      cases bb with
      | false =>
        simp only [Bool.false_eq_true, if_false] at hb ⊢
        exact ⟨L3, accd, accv, st13, rel3.lk, l3, hid_le _ _ _ _ nD3, by omega, dpA_mono (nw_mono (subF (st2.trans st3))) _ _ hacc, hb⟩
      | true =>
        simp only [if_true] at hb ⊢
        refine ⟨G, L3, δ1, _, _, rel3, hb, fun sv y L4 H4 hsv st4 rel4 res4 => ?_, fun _ _ _ _ _ h => h.elim⟩
        have nD4 : hid L4 H4 D = some (.lst accv) := st4.1 _ _ nD3
        have l4 : L4 D = false := hid_nl nD4
        refine ⟨accv, hid_le _ _ _ _ nD4, Nat.lt_of_le_of_lt hal (Nat.lt_of_lt_of_le hlt (Nat.le_trans hlen (by decide))), L4, ?_⟩
        have st14 : Step L1 H1 L4 H4 := st13.trans st4
        have st15 : ∀ w : HO, tblB w = false → Step L1 H1 L4 (upd H4 D w) := fun w nt => ⟨fun b o hb => by
          have hne : b ≠ D := fun z => by rw [z, nN1] at hb; cases hb
          rw [hid_upd l4 nt, upd_ne hne]
          exact st14.1 _ _ hb, st14.2⟩
        have lk5 : ∀ w : HO, LkOk LK L4 (upd H4 D w) := fun w => ⟨fun b lb => by
          obtain ⟨o, e1, e2⟩ := rel4.lk.1 b lb
          have hne : b ≠ D := fun z => by rw [z, l4] at lb; cases lb
          exact ⟨o, by rw [upd_ne hne]; exact e1, e2⟩, LK.mono _ _ (fun b o e mb => by
          have hne : b ≠ D := fun z => by rw [z, hid_le _ _ _ _ nD4] at e; cases e; cases mb
          rw [upd_ne hne]; exact e) rel4.lk.2⟩
        have up : ∀ w : HO, tblB w = false → Same (minus D (fz L4 δ σ H4)) (minus D (fz L4 δ σ (upd H4 D w))) := fun w nt b o hb => by
          have hne := minus_ne hb
          have h1 := minus_le _ _ _ _ hb
          refine minus_of (fz_of ?_ (fz_not h1)) hne
          rw [hid_upd l4 nt, upd_ne hne]
          exact fz_le _ _ _ _ _ _ h1
        have r4 : Rel X.K LK G L4 δ σ H4 := rel1.step st14 rel4.lk
        have imm : ∀ b xs, SqT X.K (hid L4 H4) b xs → SqT X.K (nw G (minus D (fz L4 δ σ H4))) b xs := fun b xs s => tup_nw (rd_sqT (fun c u mu e => minus_of (r4.immF mu e) fun z => by
          rw [z, nD4] at e; cases e; cases mu) s)
        have old := dpA_mono (nw_mono (subF (st2.trans (st3.trans st4)))) _ _ hacc
        have fin : ∀ dd : PyData, Dp X.K (nw G (minus D (fz L4 δ σ H4))) y dd → lcL g tt te (wipeD δ vs) (items.drop (i + 1)) (accd ++ [dd]) (fun acc => R (.own acc)) → ∃ accd5 accv5, Step L1 H1 L4 (upd H4 D (.lst (accv ++ [y]))) ∧ LkOk LK L4 (upd H4 D (.lst (accv ++ [y]))) ∧ L4 D = false ∧ (upd H4 D (.lst (accv ++ [y]))) D = some (.lst accv5) ∧ accv5.length ≤ i + 1 ∧
            DpAll X.K (nw G (minus D (fz L4 δ σ (upd H4 D (.lst (accv ++ [y])))))) accv5 accd5 ∧ lcL g tt te (wipeD δ vs) (items.drop (i + 1)) accd5 (fun acc => R (.own acc)) := fun dd h1 h2 =>
          ⟨accd ++ [dd], accv ++ [y], st15 _ rfl, lk5 _, l4, upd_same, by simp; exact hal, dpA_mono (nw_mono (up _ rfl)) _ _ (dpA_app old (.cons h1 .nil)), h2⟩
        cases sv with
        | d dd =>
          obtain ⟨n, hk⟩ := hsv
          exact fin dd (dp_nolist (fun b xs s => imm b xs (same_sqT ((nw_le _ _).trans (fz_le _ _ _ _)) s)) _ _ n res4.1) hk
        | own xs =>
          obtain ⟨n, hk⟩ := hsv
          obtain ⟨⟨ad, ws, ey, e1, e2⟩, fresh⟩ := res4
          have fr := fresh rfl rfl ad ey
          have hne : ad ≠ D := fun z => by rw [z, nD3] at fr; cases fr
          have e1' : hid L4 H4 ad = some (.lst ws) := fz_le _ _ _ _ _ _ (nw_le _ _ _ _ e1)
          have n3 : Rel X.K LK G L3 δ σ H3 := rel1.step st13 rel3.lk
          have no : ¬ OwnA δ σ ad := fun z => by
            obtain ⟨u, e, _⟩ := n3.ownN z
            rw [fr] at e; cases e
          subst ey
          refine fin _ (Dp.lst (SqL.of (nw_new (minus_of (fz_of e1' no) hne) (nG (st13.1.free fr)))) (dpA_nolist (fun b xs s => imm b xs (same_sqT ((nw_le _ _).trans (fz_le _ _ _ _)) s)) _ _ n e2)) hk
        | _ => exact hsv.elim
    rcases hx with ⟨rfl, dx⟩ | ⟨pp, xs, ds, hp, rfl, rfl, rfl, da⟩
    · exact turn (Step.refl _ _) lk (dp_mono (fz_step st) _ _ dx)
    · have np := new_at rel' hp (o := .tup xs)
      exact turn (rel'.stepNew hp) (rel'.new hp).lk (Dp.tup (SqT.of (nw_le _ _ _ _ np)) (dpA_mono ((fz_step st).trans (fz_step (rel'.stepNew hp))) _ _ da))
  · have e : i = items.length := by omega
    subst e
    rw [List.drop_length] at hl
    have fD : nw G (fz L' δ σ H') D = some (.lst accv) := nw_new (fz_of nD nOwn) (nG nN1)
    refine .inl ⟨os _ H' sm rfl, q (.own accd) (.ref D) L' H' hl (st1.trans st) rel' ⟨⟨D, accv, rfl, fD, dpA_mono (nw_mono (minus_le _ _)) _ _ hacc⟩, fun _ _ z ez => ?_⟩⟩
    cases ez
    exact st1.1.free nN1
theorem dx_lc {scope : Scope} {own : List (Str × Nat)} {tv : List Nat} {ti : TDi} {g : TDg} {ifs : List Expr} (hN : X.N.Nodup) (hi : DI X LK W false tg iter ti) (ok : BlkOk X.N X.env.scope scope own)
    (hg : ∀ (s : Shared) (H : Hp) (C : Addr) (cl : List (Str × Addr)) (fp : List Addr), DG (X.blk s H scope (compEnvC scope cl C X.env) fp) LK tv tg g)
    (ht : ∀ (s : Shared) (H : Hp) (C : Addr) (cl : List (Str × Addr)) (fp : List Addr), DTs (X.blk s H scope (compEnvC scope cl C X.env) fp) LK WF ifs tt)
    (he : ∀ (s : Shared) (H : Hp) (C : Addr) (cl : List (Str × Addr)) (fp : List Addr), DX (X.blk s H scope (compEnvC scope cl C X.env) fp) LK WF ff elt te)
    (hc : X.calm = true := by rfl) (htv : ∀ i ∈ tv, i ∈ own.map (·.2) := by decide) (hs : ∀ x, foldedSetIterable iter X.env x = pure x := by intro _; rfl) :
    DX X LK W ff (.ListComp elt [⟨tg, iter, ifs, 0⟩] scope pos) (lcD ti g tt te (own.map (·.2))) :=
  pe_imp (pe_lc (g := liftG X.K LK tv g) (tt := liftT X.K LK WF tt) (te := lift X.K LK WF ff te) hc hN hi ok hg ht he hs) fun _ _ _ h => tLc_dx htv h
/-- name = [..] on one line -/
theorem d_setLc {scope : Scope} {own : List (Str × Nat)} {tv : List Nat} {ti : TDi} {g : TDg} {ifs : List Expr} (i : Nat) {y : Str} {py spos : Pos} (hN : X.N.Nodup) (hi : DI X LK W false tg iter ti) (ok : BlkOk X.N X.env.scope scope own)
    (hg : ∀ (s : Shared) (H : Hp) (C : Addr) (cl : List (Str × Addr)) (fp : List Addr), DG (X.blk s H scope (compEnvC scope cl C X.env) fp) LK tv tg g)
    (ht : ∀ (s : Shared) (H : Hp) (C : Addr) (cl : List (Str × Addr)) (fp : List Addr), DTs (X.blk s H scope (compEnvC scope cl C X.env) fp) LK WF ifs tt)
    (he : ∀ (s : Shared) (H : Hp) (C : Addr) (cl : List (Str × Addr)) (fp : List Addr), DX (X.blk s H scope (compEnvC scope cl C X.env) fp) LK WF ff elt te)
    (hsw : swapsWith (.ListComp elt [⟨tg, iter, ifs, 0⟩] scope pos) (some (.Name y py)) spos.line X.env = pure true) (hy : X.N[i]? = some y := by rfl) (hyl : X.env.scope.names.lookup y = some .local := by rfl)
    (hc : X.calm = true := by rfl) (htv : ∀ i ∈ tv, i ∈ own.map (·.2) := by decide) (hs : ∀ x, foldedSetIterable iter X.env x = pure x := by intro _; rfl) :
    D1 X LK W (.Assign [.Name y py] (.ListComp elt [⟨tg, iter, ifs, 0⟩] scope pos) spos) (sSet ff i (lcD ti g tt te (own.map (·.2)))) :=
  ps_imp (ps_setLc (g := liftG X.K LK tv g) (tt := liftT X.K LK WF tt) (te := lift X.K LK WF ff te) hc hN hy hyl hsw hi ok hg ht he hs) fun D σ H ⟨G, L, δ, E, rel, r, q⟩ => tLc_dx htv ⟨G, L, δ, _, _, rel, r, fun sv v L' H' h st rel' res =>
    put_res rel st rel' h res fun sv' hk rel2 => q.nx _ L' _ H' hk st.2 rel2, fun x c d L' H' h st lk ex => xc_of q rel x c d h st lk ex⟩
end
end DL

namespace DL
open PySem PySem.Spec PyProof.Rows L2
/-! ### the pieces of a def in short words -/
@[simp] def tB2 (op : SV → SV → (SV → Prop) → Prop) (ta tb : TDe) : TDt := fun δ R RX => ta δ (fun x => tb δ (fun y => op x y fun sv => wB sv R) RX) RX
@[simp] def tIsN (ta : TDe) : TDt := fun δ R RX => ta δ (fun x => R (isNoneV x)) RX
@[simp] def tNotN (ta : TDe) : TDt := fun δ R RX => ta δ (fun x => R (!isNoneV x)) RX
section
variable {X : Cx} {LK : Lk} {W : WX} {pos : Pos} {fa fb' : Fl} {a b : Expr} {ta tb : TDe}
theorem dt_cmp {op : CmpOp} {r : R2} {ops : SV → SV → (SV → Prop) → Prop} (ho : OpR X (compareOp op) r) (ad : Adeq X LK r ops) (ha : DX X LK W fa a ta) (hb : DX X LK W fb' b tb) (hm : behindInMarks op b = false) : DT X LK W (.Compare a [op] [b] pos) (tB2 ops ta tb) :=
  pt_imp (pt_cmpR ho ha hb hm) fun _ _ _ h => tTest_dx (ta := eB ops ta tb) (fun _ _ _ h => tOp_dx ad h) h
theorem dt_lt (ha : DX X LK W fa a ta) (hb : DX X LK W fb' b tb) : DT X LK W (.Compare a [.Lt] [b] pos) (tB2 (opD (cmpI fun i j => decide (i < j))) ta tb) := dt_cmp op_lt (adeq_int0 fun _ _ _ => Dp.bl _) ha hb (nomark _)
theorem dt_le (ha : DX X LK W fa a ta) (hb : DX X LK W fb' b tb) : DT X LK W (.Compare a [.LtE] [b] pos) (tB2 (opD (cmpI fun i j => decide (i ≤ j))) ta tb) := dt_cmp op_le (adeq_int0 fun _ _ _ => Dp.bl _) ha hb (nomark _)
theorem dt_gt (ha : DX X LK W fa a ta) (hb : DX X LK W fb' b tb) : DT X LK W (.Compare a [.Gt] [b] pos) (tB2 (opD (cmpI fun i j => decide (j < i))) ta tb) := dt_cmp op_gt (adeq_int0 fun _ _ _ => Dp.bl _) ha hb (nomark _)
theorem dt_ge (ha : DX X LK W fa a ta) (hb : DX X LK W fb' b tb) : DT X LK W (.Compare a [.GtE] [b] pos) (tB2 (opD (cmpI fun i j => decide (j ≤ i))) ta tb) := dt_cmp op_ge (adeq_int0 fun _ _ _ => Dp.bl _) ha hb (nomark _)
theorem dt_eq (hu : X.A.units + 64 < cLine) (ha : DX X LK W fa a ta) (hb : DX X LK W fb' b tb) : DT X LK W (.Compare a [.Eq] [b] pos) (tB2 (opD eqD) ta tb) := dt_cmp (op_eq.or (op_eqD hu)) adeq_eq ha hb (nomark _)
theorem dt_ne (hu : X.A.units + 64 < cLine) (ha : DX X LK W fa a ta) (hb : DX X LK W fb' b tb) : DT X LK W (.Compare a [.NotEq] [b] pos) (tB2 (opD neD) ta tb) := dt_cmp (op_ne.or (op_neD hu)) adeq_ne ha hb (nomark _)
theorem dt_in (hu : X.A.units + 65 < cLine) (ha : DX X LK W fa a ta) (hb : DX X LK W fb' b tb) (hm : behindInMarks .In b = false := by with_unfolding_all rfl) : DT X LK W (.Compare a [.In] [b] pos) (tB2 (opD (inD false)) ta tb) :=
  dt_cmp (op_in_sign.or (op_in_seq.or (op_inD hu))) (adeq_in false _ _ (fun c z H Q h => ⟨c, z, rfl, rfl, h⟩) (fun x y d ds H Q h1 h2 s1 s2 h => ⟨d, ds, h1, h2, s1, s2, h⟩)) ha hb hm
theorem dt_notIn (hu : X.A.units + 65 < cLine) (ha : DX X LK W fa a ta) (hb : DX X LK W fb' b tb) (hm : behindInMarks .NotIn b = false := by with_unfolding_all rfl) : DT X LK W (.Compare a [.NotIn] [b] pos) (tB2 (opD (inD true)) ta tb) :=
  dt_cmp (op_notIn_sign.or (op_notIn_seq.or (op_notInD hu))) (adeq_in true _ _ (fun c z H Q h => ⟨c, z, rfl, rfl, h⟩) (fun x y d ds H Q h1 h2 s1 s2 h => ⟨d, ds, h1, h2, s1, s2, h⟩)) ha hb hm
theorem adeq_isB (neg : Bool) {r : R2} (hr : ∀ (i j : Bool) H (Q : VK), Q (.bl (if neg then !decide (i = j) else decide (i = j))) H → r (.bl i) (.bl j) H Q) : Adeq X LK r (opD (isBoolD neg)) := fun G L δ σ H x y sx sy R Q rel hx hy h q => by
  obtain ⟨dx, ex, k⟩ := wD_out h
  clear h
  obtain ⟨dy, ey, h⟩ := wD_out k
  clear k
  have h1 := asD_ok ex hx
  have h2 := asD_ok ey hy
  cases h1 <;> cases h2 <;> first | exact h.elim | skip
  exact hr _ _ H Q (q _ _ H h (Step.refl _ _) rel (res_sc fun _ => Dp.bl _))
theorem dt_isBool (ha : DX X LK W fa a ta) (hb : DX X LK W fb' b tb) : DT X LK W (.Compare a [.Is] [b] pos) (tB2 (opD (isBoolD false)) ta tb) := dt_cmp op_isBl (adeq_isB false fun i j H Q h => ⟨i, j, rfl, rfl, h⟩) ha hb (nomark _)
theorem dt_notBool (ha : DX X LK W fa a ta) (hb : DX X LK W fb' b tb) : DT X LK W (.Compare a [.IsNot] [b] pos) (tB2 (opD (isBoolD true)) ta tb) := dt_cmp op_notBl (adeq_isB true fun i j H Q h => ⟨i, j, rfl, rfl, h⟩) ha hb (nomark _)
theorem dt_isNone {j p2} (ha : DX X LK W fa a ta) : DT X LK W (.Compare a [.Is] [.Constant .none j p2] pos) (tIsN ta) :=
  pt_imp (pt_cmpR op_isN ha pe_non (nomark _)) fun σ H Q ⟨G, L, δ, R, RX, rel, r, q, qx⟩ =>
    ⟨G, L, δ, _, RX, rel, r, fun sv v L' H' h st rel' res => ⟨rfl, _, rfl, by rw [isNone_of res.1]; exact q _ L' H' h st rel'⟩, qx⟩
theorem dt_notNone {j p2} (ha : DX X LK W fa a ta) : DT X LK W (.Compare a [.IsNot] [.Constant .none j p2] pos) (tNotN ta) :=
  pt_imp (pt_cmpR op_notN ha pe_non (nomark _)) fun σ H Q ⟨G, L, δ, R, RX, rel, r, q, qx⟩ =>
    ⟨G, L, δ, _, RX, rel, r, fun sv v L' H' h st rel' res => ⟨rfl, _, rfl, by rw [isNone_of res.1]; exact q _ L' H' h st rel'⟩, qx⟩
theorem dx_glob_int {x : Str} {i : Int} {tk : Tok} (hg : Gl X x) (hm : X.mg x = some (.int i tk)) (hd : (x == ("__debug__" : Str)) = false := by decide) : DX X LK W ff (.Name x pos) (eC (.int i)) := dx_glob (v := .int i) hg hm ⟨_, rfl⟩ (fun _ => Dp.int _) hd
theorem dx_glob_str {x i : Str} {tk : Tok} (hg : Gl X x) (hm : X.mg x = some (.str i tk)) (hd : (x == ("__debug__" : Str)) = false := by decide) : DX X LK W ff (.Name x pos) (eC (.str i)) := dx_glob (v := .str i) hg hm ⟨_, rfl⟩ (fun _ => Dp.str _) hd
end
theorem Room.u65 {k : Nat} {A : Around} (r : Room k A) : A.units + 65 < cLine := by have := r.un; omega
/-- the pieces of a def keep its contract -/
def AdOk (C : Ctr) (ts : TDs) (N : List Str) (n : Nat) : Prop := ∀ (args : List SV) (R : SV → Prop) (RX : Exn → Prop), args.length = n → C args R RX → ts (startD N args) { nx := fun _ => R (.d .none), rt := fun _ => R, xc := fun _ => RX }
/-- a def of the text that keeps its contract, by name -/
def Has (P : Program) (w : World) (K : PySem.W.Frag) (mg : Str → Option Value) (base : Heap) (LK : Lk) (x : Str) (k : Nat) (ps : List Str) (C : Ctr) : Prop :=
  ∃ fd : FuncData, FnOk P w K mg base (L2.CX P w) k (He.ga K x) fd ps (spD K LK ps.length C) ∧ Binds K fd ps [] ∧ mg x = some (.ref (He.ga K x)) ∧ PySem.W.keepIn K (.ref (He.ga K x)) = true
end DL

namespace DL
open PySem PySem.Spec PyProof.Rows L2

/-! ### a slot's own thing is written -/
theorem fz_mut {L : Ls} {δ : DS} {σ : L2.St} {H : Hp} {i : Nat} {s0 s1 : SV} {a : Addr} {w : HO} (h0 : δ[i]? = some (some s0)) (o0 : isOwn s0 = true) (o1 : isOwn s1 = true) (hσ : σ[i]? = some (some (.ref a))) (l : L a = false) (nt : tblB w = false) :
    fz L (δ.set i (some s1)) σ (upd H a w) = fz L δ σ H := by
  have ow : ∀ b, OwnA (δ.set i (some s1)) σ b ↔ OwnA δ σ b := fun b => by
    have hi : i < δ.length := (List.getElem?_eq_some_iff.mp h0).1
    constructor
    · rintro ⟨j, s, h1, h2, h3⟩
      by_cases hj : j = i
      · subst hj; exact ⟨j, s0, h0, o0, h3⟩
      · rw [List.getElem?_set_ne (Ne.symm hj)] at h1; exact ⟨j, s, h1, h2, h3⟩
    · rintro ⟨j, s, h1, h2, h3⟩
      by_cases hj : j = i
      · subst hj; exact ⟨j, s1, List.getElem?_set_self hi, o1, h3⟩
      · exact ⟨j, s, by rw [List.getElem?_set_ne (Ne.symm hj)]; exact h1, h2, h3⟩
  funext b
  by_cases hb : OwnA δ σ b
  · rw [fz_own hb, fz_own ((ow b).mpr hb)]
  · have hne : b ≠ a := fun z => hb ⟨i, s0, h0, o0, by rw [z]; exact hσ⟩
    have e : hid L (upd H a w) b = hid L H b := by rw [hid_upd l nt, upd_ne hne]
    unfold fz
    rw [if_neg hb, if_neg (fun z => hb ((ow b).mp z)), e]
section
variable {K : PySem.W.Frag} {LK : Lk} {G : Gd} {L : Ls} {δ : DS} {σ : L2.St} {H : Hp}
theorem rel_mut {i : Nat} {s0 s1 : SV} {a : Addr} {w w0 : HO} (rel : Rel K LK G L δ σ H) (h0 : δ[i]? = some (some s0)) (o0 : isOwn s0 = true) (o1 : isOwn s1 = true) (hσ : σ[i]? = some (some (.ref a))) (hw : hid L H a = some w0) (m0 : mutB w0 = true) (nt : tblB w = false)
    (ok : SlotOk K G (fz L δ σ H) (hid L (upd H a w)) L (.ref a) s1) : Rel K LK G L (δ.set i (some s1)) σ (upd H a w) := by
  have l := hid_nl hw
  have ef := fz_mut (H := H) (w := w) h0 o0 o1 hσ l nt
  have hi : i < δ.length := (List.getElem?_eq_some_iff.mp h0).1
  refine ⟨rel.gn, by rw [ef]; exact rel.g, ⟨fun b lb => ?_, LK.mono _ _ (fun b o e mb => ?_) rel.lk.2⟩, fun j s h => ?_, fun j k b sj sk hjk h1 h2 p1 p2 e1 e2 => ?_, by simpa using rel.ln⟩
  · obtain ⟨o, e1, e2⟩ := rel.lk.1 b lb
    exact ⟨o, by rw [upd_ne (fun z => by rw [z, l] at lb; cases lb)]; exact e1, e2⟩
  · have hne : b ≠ a := fun z => by
      have := hid_le _ _ _ _ hw
      rw [← z, e] at this; cases this; rw [m0] at mb; cases mb
    rw [upd_ne hne]; exact e
  · rw [ef]
    by_cases hj : j = i
    · subst hj
      rw [List.getElem?_set_self hi] at h
      cases h
      exact ⟨_, hσ, ok⟩
    · rw [List.getElem?_set_ne (Ne.symm hj)] at h
      obtain ⟨v, h1, h2⟩ := rel.sl j s h
      refine ⟨v, h1, ?_⟩
      have other : ∀ {b : Addr}, isOwn s = true → v = .ref b → b ≠ a := fun {b} os ev z => by
        subst ev; subst z
        exact rel.ow j i b s s0 hj h h0 os o0 h1 hσ
      have keepN : ∀ {b : Addr} {o : HO}, b ≠ a → hid L H b = some o → hid L (upd H a w) b = some o := fun {b o} hne e => by rw [hid_upd l nt, upd_ne hne]; exact e
      cases s with
      | own _ => obtain ⟨b, vs, ev, e1, e2⟩ := h2; exact ⟨b, vs, ev, keepN (other rfl ev) e1, e2⟩
      | oK _ => obtain ⟨b, vs, ev, e1, e2⟩ := h2; exact ⟨b, vs, ev, keepN (other rfl ev) e1, e2⟩
      | oT _ => obtain ⟨b, vs, ev, e1, e2⟩ := h2; exact ⟨b, vs, ev, keepN (other rfl ev) e1, e2⟩
      | tk _ _ => obtain ⟨vs, ev, e1, e2⟩ := h2; exact ⟨vs, ev, keepN (other rfl ev) e1, e2⟩
      | d _ => exact h2
      | rK _ => exact h2
      | rT _ => exact h2
      | tok => exact h2
      | fn _ _ => exact h2
      | xn _ _ _ _ => exact h2
  · have pick : ∀ {n : Nat} {sn : SV}, (δ.set i (some s1))[n]? = some (some sn) → isOwn sn = true → ∃ sn', δ[n]? = some (some sn') ∧ isOwn sn' = true := fun {n sn} h o => by
      by_cases hn : n = i
      · subst hn; exact ⟨s0, h0, o0⟩
      · rw [List.getElem?_set_ne (Ne.symm hn)] at h; exact ⟨sn, h, o⟩
    obtain ⟨a1, b1, c1⟩ := pick h1 p1
    obtain ⟨a2, b2, c2⟩ := pick h2 p2
    exact rel.ow j k b a1 a2 hjk b1 b2 c1 c2 e1 e2
end
section
variable {X : Cx} {LK : Lk} {W : WX} {fl fa fb' : Fl} {e a b c : Expr} {es : List Expr} {pos p : Pos} {ta tb tc : TDe} {tt tu : TDt} {tas : TDa} {st : Stmt} {rest body : List Stmt} {t u : TDs}
/-! ### x op= e -/
@[simp] def sAug (op : SV → SV → (SV → Prop) → Prop) (i : Nat) (ta : TDe) : TDs := fun δ E => svAt δ i fun sx => ta δ (fun sy => op sx sy fun sz => storeV ff sz fun sv' => E.nx (δ.set i (some sv'))) (E.xc δ)
theorem d_aug {op : Operator} {r : R2} {ops : SV → SV → (SV → Prop) → Prop} (i : Nat) {x : Str} {pos' : Pos} (hN : X.N.Nodup) (ho : OpR X (inplaceOp op) r) (ad : Adeq X LK r ops) (he : DX X LK W fl e ta) (hi : X.N[i]? = some x := by rfl) (hx : Loc X.env.scope x := by first | exact Or.inl rfl | exact Or.inr rfl)
    (hf : X.fn x = true ∨ X.env.scope.names.lookup x = some .local := by first | exact .inl rfl | exact .inr rfl) : D1 X LK W (.AugAssign (.Name x pos') op e pos) (sAug ops i ta) :=
  ps_imp (ps_aug (ti := r) hN hi hx he (fun pins s σ H x y v u Q I rx ry h => ho pins s σ H x y v u Q I rx ry h) hf) fun D σ H ⟨G, L, δ, E, rel, r, q⟩ => by
    obtain ⟨sx, h1, r⟩ := svAt_out r
    obtain ⟨vx, h2, h3⟩ := rel.sl i sx h1
    refine ⟨vx, h2, G, L, δ, _, _, rel, r, fun sy y L1 H1 hy st1 rel1 res1 => ?_, fun x c d L' H' h st lk ex => xc_of q rel x c d h st lk ex⟩
    have hx1 : SvOk X.K (hid L1 H1) L1 vx sx := by
      obtain ⟨v', h4, h5⟩ := rel1.sl i sx h1
      rw [h2] at h4; cases h4
      exact slot_b (fz_le _ _ _ _) h5
    exact ad G L1 δ σ H1 vx y sx sy _ _ rel1 hx1 (res1.b (fz_le _ _ _ _)) hy fun sz z H2 hz st2 rel2 res2 =>
      put_res rel1 st2 rel2 hz res2 fun sv' hk rel3 => q.nx _ L1 _ H2 hk st1.2 rel3
theorem d_augAdd (i : Nat) {x : Str} {pos' : Pos} (hN : X.N.Nodup) (he : DX X LK W fl e ta) (hi : X.N[i]? = some x := by rfl) (hx : Loc X.env.scope x := by first | exact Or.inl rfl | exact Or.inr rfl)
    (hf : X.fn x = true ∨ X.env.scope.names.lookup x = some .local := by first | exact .inl rfl | exact .inr rfl) : D1 X LK W (.AugAssign (.Name x pos') .Add e pos) (sAug (fun a b R => match a, b with | .d (.int i), .d (.int j) => R (.d (.int (i + j))) | _, _ => False) i ta) :=
  d_aug i hN iop_add ((adeq_int0 (g := fun i j => .int (i + j)) (gd := fun i j => .int (i + j)) (fun _ _ _ => Dp.int _)).imp fun a b R h => by
    split at h
    · exact h
    · exact h.elim) he hi hx hf
theorem d_augSub (i : Nat) {x : Str} {pos' : Pos} (hN : X.N.Nodup) (he : DX X LK W fl e ta) (hi : X.N[i]? = some x := by rfl) (hx : Loc X.env.scope x := by first | exact Or.inl rfl | exact Or.inr rfl)
    (hf : X.fn x = true ∨ X.env.scope.names.lookup x = some .local := by first | exact .inl rfl | exact .inr rfl) : D1 X LK W (.AugAssign (.Name x pos') .Sub e pos) (sAug (fun a b R => match a, b with | .d (.int i), .d (.int j) => R (.d (.int (i - j))) | _, _ => False) i ta) :=
  d_aug i hN iop_sub ((adeq_int0 (g := fun i j => .int (i - j)) (gd := fun i j => .int (i - j)) (fun _ _ _ => Dp.int _)).imp fun a b R h => by
    split at h
    · exact h
    · exact h.elim) he hi hx hf
/-! ### x.append(e), x[k] = e -/
def itemN (sv : SV) (R : PyData → Prop) : Prop := match sv with
  | .d x => R x
  | .own xs => R (.list xs)
  | _ => False
@[simp] theorem itemN_d (x : PyData) (R : PyData → Prop) : itemN (.d x) R = R x := rfl
@[simp] theorem itemN_own (x : List PyData) (R : PyData → Prop) : itemN (.own x) R = R (.list x) := rfl
theorem itemN_out {K : PySem.W.Frag} {M : Hp} {L : Ls} {v : V} {sv : SV} {R : PyData → Prop} (h : itemN sv R) (o : SvOk K M L v sv) : ∃ d, Dp K M v d ∧ R d := by
  unfold itemN at h
  split at h
  · exact ⟨_, o, h⟩
  · obtain ⟨a, vs, rfl, e1, e2⟩ := o
    exact ⟨_, Dp.lst (SqL.of e1) e2, h⟩
  · exact h.elim
@[simp] def sApp (i : Nat) (ta : TDe) : TDs := fun δ E => svAt δ i fun s0 => match s0 with
  | .own xs => ta δ (fun sv => itemN sv fun d => xs.length < sizeLine ∧ E.nx (δ.set i (some (.own (xs ++ [d]))))) (E.xc δ)
  | _ => False
theorem d_app (i : Nat) {x : Str} {p1 p2 p3 p4 : Pos} (he : DX X LK W ff e ta) (hN : X.N[i]? = some x := by rfl) (hv : Vis X.env.scope x := by first | exact Or.inl rfl | exact Or.inr (Or.inl rfl) | exact Or.inr (Or.inr rfl)) (hd : (x == ("__debug__" : Str)) = false := by decide) (hcd : (x == ("__classdict__" : Str)) = false := by decide)
    (hbase : attributeBase (.Name x p1) "append" X.env (eval (.Name x p1) X.env) = eval (.Name x p1) X.env := by rfl)
    (hfew : ((backTo p3 (starEach [e] X.env)).all (fun x => !x.1) && (backToKw p3 (keywordEach [] X.env)).all (fun x => x.1.isSome) && decide ([e].length + ([] : List Keyword).length + (if ([] : List Keyword).isEmpty then 0 else 1) < 30)) = true := by rfl)
    (hline : (p2.endLine == p3.line) = true := by rfl) (hs : starEach [e] X.env = (false, eval e X.env) :: starEach [] X.env := by rfl) (hplain : (backTo p3 (starEach [] X.env)).any (·.1) = false := by rfl) (hsw : swapsWith (.Call (.Attribute (.Name x p1) "append" p2) [e] [] p3) none p4.line X.env = pure false := by rfl) :
    D1 X LK W (.Expr (.Call (.Attribute (.Name x p1) "append" p2) [e] [] p3) p4) (sApp i ta) :=
  ps_imp (ps_expr (pe_bm PySem.F.plainAttrs_list PySem.F.slot_list_append PySem.F.type_list_append mt_append (pe_var hN hv hd hcd) (pa_cons he pa_nil hs) hbase hfew hline hs hplain) hsw) fun D σ H ⟨G, L, δ, E, rel, r, q⟩ => by
    obtain ⟨s0, h0, r⟩ := svAt_out r
    cases s0 <;> first | exact r.elim | skip
    rename_i xs
    obtain ⟨v, hσ, ad, vs, ev, e1, e2⟩ := rel.sl i _ h0
    subst ev
    refine ⟨_, hσ, .inl ⟨rfl, vs, hid_sqL (SqL.of e1)⟩, G, L, δ, _, _, rel, r, fun sv y L1 H1 hw st1 rel1 res1 => ?_, fun x c d L' H' h st lk ex => xc_of q rel x c d h st lk ex⟩
    obtain ⟨d, hd, hlen, hk⟩ := itemN_out hw res1.1
    obtain ⟨v', hσ', ad', vs', ev', e1', e2'⟩ := rel1.sl i _ h0
    rw [hσ] at hσ'; cases hσ'; cases ev'
    have hl := dpA_len e2'
    have nN := hid_le _ _ _ _ e1'
    refine ⟨ad, vs', y, rfl, rfl, nN, by rw [hl]; exact hlen, q.nx _ L1 σ _ hk st1.2 (rel_mut rel1 h0 rfl rfl hσ e1' rfl rfl ⟨ad, _, rfl, ?_, dpA_app e2' (.cons hd .nil)⟩)⟩
    rw [hid_upd (hid_nl e1')]; exact upd_same
def extV (sv : SV) (R : List PyData → Prop) : Prop := match sv with
  | .own ys => R ys
  | _ => False
@[simp] theorem extV_own (ys : List PyData) (R : List PyData → Prop) : extV (.own ys) R = R ys := rfl
theorem extV_out {sv : SV} {R : List PyData → Prop} (h : extV sv R) : ∃ ys, sv = .own ys ∧ R ys := by
  cases sv <;> first | exact ⟨_, rfl, h⟩ | exact h.elim
@[simp] def sExt (i : Nat) (ta : TDe) : TDs := fun δ E => svAt δ i fun s0 => match s0 with
  | .own xs => ta δ (fun sv => extV sv fun ys => xs.length + ys.length ≤ sizeLine ∧ E.nx (δ.set i (some (.own (xs ++ ys))))) (E.xc δ)
  | _ => False
theorem d_ext (i : Nat) {x : Str} {p1 p2 p3 p4 : Pos} (he : DX X LK W ff e ta) (hN : X.N[i]? = some x := by rfl) (hv : Vis X.env.scope x := by first | exact Or.inl rfl | exact Or.inr (Or.inl rfl) | exact Or.inr (Or.inr rfl)) (hd : (x == ("__debug__" : Str)) = false := by decide) (hcd : (x == ("__classdict__" : Str)) = false := by decide)
    (hbase : attributeBase (.Name x p1) "extend" X.env (eval (.Name x p1) X.env) = eval (.Name x p1) X.env := by rfl)
    (hfew : ((backTo p3 (starEach [e] X.env)).all (fun x => !x.1) && (backToKw p3 (keywordEach [] X.env)).all (fun x => x.1.isSome) && decide ([e].length + ([] : List Keyword).length + (if ([] : List Keyword).isEmpty then 0 else 1) < 30)) = true := by rfl)
    (hline : (p2.endLine == p3.line) = true := by rfl) (hs : starEach [e] X.env = (false, eval e X.env) :: starEach [] X.env := by rfl) (hplain : (backTo p3 (starEach [] X.env)).any (·.1) = false := by rfl) (hsw : swapsWith (.Call (.Attribute (.Name x p1) "extend" p2) [e] [] p3) none p4.line X.env = pure false := by rfl) :
    D1 X LK W (.Expr (.Call (.Attribute (.Name x p1) "extend" p2) [e] [] p3) p4) (sExt i ta) :=
  ps_imp (ps_expr (pe_bm PySem.F.plainAttrs_list PySem.F.slot_list_extend PySem.F.type_list_extend mt_extend (pe_var hN hv hd hcd) (pa_cons he pa_nil hs) hbase hfew hline hs hplain) hsw) fun D σ H ⟨G, L, δ, E, rel, r, q⟩ => by
    obtain ⟨s0, h0, r⟩ := svAt_out r
    cases s0 <;> first | exact r.elim | skip
    rename_i xs
    obtain ⟨v, hσ, ad, vs, ev, e1, e2⟩ := rel.sl i _ h0
    subst ev
    refine ⟨_, hσ, .inl ⟨rfl, vs, hid_sqL (SqL.of e1)⟩, G, L, δ, _, _, rel, r, fun sv y L1 H1 hw st1 rel1 res1 => ?_, fun x c d L' H' h st lk ex => xc_of q rel x c d h st lk ex⟩
    obtain ⟨ys, rfl, hlen, hk⟩ := extV_out hw
    obtain ⟨b, us, rfl, eb, db⟩ := res1.1
    obtain ⟨v', hσ', ad', vs', ev', e1', e2'⟩ := rel1.sl i _ h0
    rw [hσ] at hσ'; cases hσ'; cases ev'
    have hl := dpA_len e2'
    have hl2 := dpA_len db
    have nN := hid_le _ _ _ _ e1'
    have nB := hid_le _ _ _ _ (fz_le _ _ _ _ _ _ (nw_le _ _ _ _ eb))
    refine ⟨ad, b, vs', us, rfl, rfl, nN, nB, by omega, q.nx _ L1 σ _ hk st1.2 (rel_mut rel1 h0 rfl rfl hσ e1' rfl rfl ⟨ad, _, rfl, ?_, dpA_app e2' db⟩)⟩
    rw [hid_upd (hid_nl e1')]; exact upd_same
/-- a list that stands in a slot, written: what the slot holds then -/
def setAt (s0 : SV) (k : Int) (d : PyData) (R : SV → Prop) : Prop := match s0 with
  | .own xs => (match ixN xs.length k with | some j => R (.own (xs.set j d)) | none => False)
  | .tk b xs => (match ixN xs.length k with | some j => R (.tk b (xs.set j d)) | none => False)
  | _ => False
@[simp] def sPutI (i : Nat) (ta tk : TDe) : TDs := fun δ E => ta δ (fun sv => svAt δ i fun s0 => isOwn s0 = true ∧ tk δ (fun sk => itemN sv fun d => wI sk fun k => setAt s0 k d fun s1 => E.nx (δ.set i (some s1))) (E.xc δ)) (E.xc δ)
theorem d_putI (i : Nat) {x : Str} {ix : Expr} {tk : TDe} {p1 p2 : Pos} (he : DX X LK W ff e ta) (hk : DX X LK W fa ix tk) (hN : X.N[i]? = some x := by rfl) (hv : Vis X.env.scope x := by first | exact Or.inl rfl | exact Or.inr (Or.inl rfl) | exact Or.inr (Or.inr rfl)) (hd : (x == ("__debug__" : Str)) = false := by decide) (hcd : (x == ("__classdict__" : Str)) = false := by decide)
    (hs : swapsWithSole [.Subscript (.Name x p1) ix p2] e pos.line X.env = pure false := by rfl) (hw : swappedStores [.Subscript (.Name x p1) ix p2] e X.env = pure none := by rfl) (h1 : (assignEach [.Subscript (.Name x p1) ix p2] X.env).map (·.2) = [assign (.Subscript (.Name x p1) ix p2) X.env] := by rfl)
    (hass : ∀ v, assign (.Subscript (.Name x p1) ix p2) X.env v = (do
      let ov ← holding [v] (eval (.Name x p1) X.env)
      let iv ← holding [v, ov] (eval ix X.env)
      standAt p2
      holding [v, ov, iv] (setItem ov iv v)
      release [v, ov, iv] []) := by intro _; rfl) :
    D1 X LK W (.Assign [.Subscript (.Name x p1) ix p2] e pos) (sPutI i ta tk) :=
  ps_imp (ps_asg he (pg_sub (pe_var hN hv hd hcd) hk set_list hass) hs hw h1) fun D σ H ⟨G, L, δ, E, rel, r, q⟩ => ⟨G, L, δ, _, _, rel, r, fun sv y L1 H1 hw st1 rel1 res1 => by
    obtain ⟨s0, h0, os, r⟩ := svAt_out hw
    obtain ⟨v, hσ, so⟩ := rel1.sl i _ h0
    refine ⟨v, hσ, G, L1, δ, _, _, rel1, r, fun sk kv L2' H2 hw st2 rel2 res2 => ?_, fun x c d L' H' h st lk ex => xc_of (q.mono st1.2) rel1 x c d h st lk ex⟩
    obtain ⟨d, hd, hw2⟩ := itemN_out hw (res1.step st2).1
    obtain ⟨k, rfl, rfl, hw3⟩ := wI_out hw2 res2.1
    obtain ⟨v', hσ', so'⟩ := rel2.sl i _ h0
    rw [hσ] at hσ'; cases hσ'
    have mono : ∀ z, L z = true → L2' z = true := fun z hz => st2.2 z (st1.2 z hz)
    cases s0 <;> first | exact hw3.elim | skip
    · rename_i xs
      obtain ⟨ad, vs', rfl, e1', e2'⟩ := so'
      have hl := dpA_len e2'
      unfold setAt at hw3
      simp only [← hl] at hw3
      split at hw3
      · rename_i j ej
        refine ⟨ad, vs', k, j, rfl, rfl, hid_le _ _ _ _ e1', ej, q.nx _ L2' σ _ hw3 mono (rel_mut rel2 h0 rfl rfl hσ e1' rfl rfl ⟨ad, _, rfl, ?_, dpA_set hd j e2'⟩)⟩
        rw [hid_upd (hid_nl e1')]; exact upd_same
      · exact hw3.elim
    · rename_i b xs
      obtain ⟨vs', rfl, e1', e2'⟩ := so'
      have hl := dpA_len e2'
      unfold setAt at hw3
      simp only [← hl] at hw3
      split at hw3
      · rename_i j ej
        refine ⟨b, vs', k, j, rfl, rfl, hid_le _ _ _ _ e1', ej, q.nx _ L2' σ _ hw3 mono (rel_mut rel2 h0 rfl rfl hσ e1' rfl rfl ⟨_, rfl, ?_, dpA_set hd j e2'⟩)⟩
        rw [hid_upd (hid_nl e1')]; exact upd_same
      · exact hw3.elim, fun x c d L' H' h st lk ex => xc_of q rel x c d h st lk ex⟩
/-! ### dicts -/
def keyD : PyData → Option Key
  | .int i => some (.inl i)
  | .str s => some (.inr s)
  | _ => none
theorem keyD_ok {K : PySem.W.Frag} {M : Hp} {v : V} {x : PyData} {k : Key} (h : Dp K M v x) (e : keyD x = some k) : v = kV k := by
  cases h <;> simp [keyD] at e <;> subst e <;> rfl
def keysD : List PyData → Option (List Key)
  | [] => some []
  | x :: xs => match keyD x, keysD xs with
    | some k, some ks => some (k :: ks)
    | _, _ => none
theorem keysD_ok {K : PySem.W.Frag} {M : Hp} : ∀ {vs : List V} {xs : List PyData} {ks : List Key}, DpAll K M vs xs → keysD xs = some ks → vs = ks.map kV
  | _, [], ks, h, e => by cases h; simp [keysD] at e; subst e; rfl
  | _, x :: xs, ks, h, e => by
    cases h with
    | cons h1 h2 =>
      unfold keysD at e
      split at e
      · rename_i k ks' e1 e2
        cases e
        rw [keyD_ok h1 e1, keysD_ok h2 e2]; rfl
      · cases e
def valD {κ : Type} [DecidableEq κ] (kvs : List (κ × PyData)) (k : κ) : Option PyData := (kvs.find? fun kv => decide (kv.1 = k)).map (·.2)
def putD {κ : Type} [DecidableEq κ] (kvs : List (κ × PyData)) (k : κ) (v : PyData) : List (κ × PyData) :=
  if (kvs.any fun kv => decide (kv.1 = k)) = true then kvs.map (fun kv => if kv.1 = k then (kv.1, v) else kv) else kvs ++ [(k, v)]
theorem valD_ok {κ : Type} [DecidableEq κ] {K : PySem.W.Frag} {M : Hp} (k : κ) : ∀ {vs : List (κ × V)} {ds : List (κ × PyData)}, KD K M vs ds → (valV vs k = none ∧ valD ds k = none) ∨ ∃ v d, valV vs k = some v ∧ valD ds k = some d ∧ Dp K M v d
  | _, _, .nil => .inl ⟨rfl, rfl⟩
  | _, _, @Paired.cons _ _ _ x y xs ys r t => by
    obtain ⟨r1, r2⟩ := r
    unfold valV valD
    rw [List.find?_cons, List.find?_cons, r1]
    cases q : decide (y.1 = k) with
    | true => exact .inr ⟨_, _, rfl, rfl, r2⟩
    | false => exact valD_ok k t
theorem any_keys {κ : Type} [DecidableEq κ] {K : PySem.W.Frag} {M : Hp} (k : κ) : ∀ {vs : List (κ × V)} {ds : List (κ × PyData)}, KD K M vs ds → (vs.any fun kv => decide (kv.1 = k)) = (ds.any fun kv => decide (kv.1 = k))
  | _, _, .nil => rfl
  | _, _, .cons r t => by rw [List.any_cons, List.any_cons, r.1, any_keys k t]
theorem map_put {κ : Type} [DecidableEq κ] {K : PySem.W.Frag} {M : Hp} (k : κ) {v : V} {d : PyData} (hd : Dp K M v d) : ∀ {vs : List (κ × V)} {ds : List (κ × PyData)}, KD K M vs ds → KD K M (vs.map fun kv => if kv.1 = k then (kv.1, v) else kv) (ds.map fun kv => if kv.1 = k then (kv.1, d) else kv)
  | _, _, .nil => .nil
  | _, _, @Paired.cons _ _ _ x y xs ys r t => by
    obtain ⟨r1, r2⟩ := r
    refine .cons ?_ (map_put k hd t)
    by_cases e : y.1 = k
    · have e' := r1.trans e
      show (if x.1 = k then (x.1, v) else x).1 = (if y.1 = k then (y.1, d) else y).1 ∧ Dp K M (if x.1 = k then (x.1, v) else x).2 (if y.1 = k then (y.1, d) else y).2
      rw [if_pos e', if_pos e]; exact ⟨r1, hd⟩
    · have e' := fun z => e (r1.symm.trans z)
      show (if x.1 = k then (x.1, v) else x).1 = (if y.1 = k then (y.1, d) else y).1 ∧ Dp K M (if x.1 = k then (x.1, v) else x).2 (if y.1 = k then (y.1, d) else y).2
      rw [if_neg e', if_neg e]; exact ⟨r1, r2⟩
theorem paired_app {α β : Type} {F : α → β → Prop} : ∀ {xs : List α} {ys : List β} {zs : List α} {ws : List β}, Paired F xs ys → Paired F zs ws → Paired F (xs ++ zs) (ys ++ ws)
  | _, _, _, _, .nil, h => h
  | _, _, _, _, .cons r t, h => .cons r (paired_app t h)
theorem put_ok {κ : Type} [DecidableEq κ] {K : PySem.W.Frag} {M : Hp} (k : κ) {v : V} {d : PyData} (hd : Dp K M v d) {vs : List (κ × V)} {ds : List (κ × PyData)} (h : KD K M vs ds) : KD K M (putK vs k v) (putD ds k d) := by
  unfold putK putD
  rw [any_keys k h]
  split
  · exact map_put k hd h
  · exact paired_app h (.cons ⟨rfl, hd⟩ .nil)
theorem lift_imp {K : PySem.W.Frag} {te : TDe} {σ : L2.St} {H : Hp} {Q Q' : VK} (i : ∀ v H', Q v H' → Q' v H') (h : lift K LK W fl te σ H Q) : lift K LK W fl te σ H Q' := by
  obtain ⟨G, L, δ, R, RX, rel, r, q, qx⟩ := h
  exact ⟨G, L, δ, R, RX, rel, r, fun sv v L' H' h1 h2 h3 h4 => i _ _ (q sv v L' H' h1 h2 h3 h4), qx⟩
theorem dx_dnewK : DX X LK W ff (.Dict [] [] pos) (fun _ R _ => R (.oK [])) :=
  pe_imp pe_dnewK fun σ H Q ⟨G, L, δ, R, RX, rel, r, q, _⟩ p hp => q (.oK []) _ L _ r (rel.stepNew hp) (rel.new hp) (res_new rel hp ⟨p, [], rfl, new_at rel hp, .nil⟩)
theorem dx_dnewT : DX X LK W ff (.Dict [] [] pos) (fun _ R _ => R (.oT [])) :=
  pe_imp pe_dnewT fun σ H Q ⟨G, L, δ, R, RX, rel, r, q, _⟩ p hp => q (.oT []) _ L _ r (rel.stepNew hp) (rel.new hp) (res_new rel hp ⟨p, [], rfl, new_at rel hp, .nil⟩)
/-- what is at a key -/
def getV (sd sk : SV) (R : Option PyData → Prop) : Prop := wD sk fun k => match sd with
  | .oK kvs => (match keyD k with | some k => R (valD kvs k) | none => False)
  | .rK kvs => (match keyD k with | some k => R (valD kvs k) | none => False)
  | _ => False
theorem getV_ok {K : PySem.W.Frag} {L : Ls} {H : Hp} {x y : V} {sd sk : SV} {R : Option PyData → Prop} (hx : SvOk K (hid L H) L x sd) (hy : SvOk K (hid L H) L y sk) (h : getV sd sk R) :
    ∃ a o r, x = .ref a ∧ DGet H a y o ∧ R r ∧ ((o = none ∧ r = none) ∨ ∃ v d, o = some v ∧ r = some d ∧ Dp K (hid L H) v d) := by
  obtain ⟨dk, ek, h2⟩ := wD_out h
  have hk := asD_ok ek hy
  have main : ∀ (kvs : List (Key × PyData)), (∃ a vs, x = .ref a ∧ (hid L H) a = some (.dK vs) ∧ KD K (hid L H) vs kvs) → (match keyD dk with | some k => R (valD kvs k) | none => False) → ∃ a o r, x = .ref a ∧ DGet H a y o ∧ R r ∧ ((o = none ∧ r = none) ∨ ∃ v d, o = some v ∧ r = some d ∧ Dp K (hid L H) v d) := fun kvs ⟨a, vs, ea, e1, e2⟩ h3 => by
    split at h3
    · rename_i k e
      refine ⟨a, valV vs k, valD kvs k, ea, ?_, h3, ?_⟩
      · rw [keyD_ok hk e]; exact DGet.k (hid_le _ _ _ _ e1)
      · rcases valD_ok k e2 with ⟨z1, z2⟩ | ⟨v, d, z1, z2, z3⟩
        · exact .inl ⟨z1, z2⟩
        · exact .inr ⟨v, d, z1, z2, z3⟩
    · exact h3.elim
  cases sd <;> first | exact h2.elim | skip
  · exact main _ hx h2
  · exact main _ hx h2
def someD (r : Option PyData) (R : SV → Prop) : Prop := match r with | some d => R (.d d) | none => False
@[simp] theorem someD_some (d : PyData) (R : SV → Prop) : someD (some d) R = R (.d d) := rfl
@[simp] theorem someD_none (R : SV → Prop) : someD none R = False := rfl
@[simp] def eDGet (td tk : TDe) : TDe := fun δ R RX => td δ (fun sd => tk δ (fun sk => getV sd sk fun r => someD r R) RX) RX
theorem dx_dget (hu : X.A.units + 1 < cLine) (ha : DX X LK W fa a ta) (hb : DX X LK W fb' b tb) (hs : NoSl b := by exact fun _ _ => rfl) : DX X LK W fb (.Subscript a b pos) (eDGet ta tb) :=
  pe_imp (pe_dget hu ha hb hs) fun σ H Q ⟨G, L, δ, R, RX, rel, r, q, qx⟩ => ⟨G, L, δ, _, _, rel, r, fun sx x L1 H1 hw st1 rel1 res1 => ⟨G, L1, δ, _, _, rel1, hw, fun sy y L2' H2 hw2 st2 rel2 res2 => by
    obtain ⟨a, o, r, e1, e2, e3, e4⟩ := getV_ok ((res1.step st2).b (fz_le _ _ _ _)) (res2.b (fz_le _ _ _ _)) hw2
    subst e1
    rcases e4 with ⟨z1, z2⟩ | ⟨v, d, z1, z2, z3⟩
    · subst z2; exact e3.elim
    · subst z1; subst z2
      exact ⟨a, v, rfl, e2, q (.d d) v L2' H2 e3 (st1.trans st2) rel2 ⟨z3, fun _ z => nomatch z⟩⟩, fun x c d L' H' h st lk ex => qx x c d L' H' h (st1.trans st) lk ex⟩, fun x c d L' H' h st lk ex => qx x c d L' H' h st lk ex⟩
@[simp] def tDIn (neg : Bool) (tk td : TDe) : TDt := fun δ R RX => tk δ (fun sk => td δ (fun sd => getV sd sk fun r => R (if neg then !r.isSome else r.isSome)) RX) RX
theorem tDIn_dx {σ : L2.St} {H : Hp} {Q : Bool → Hp → Prop} {neg : Bool} (h : liftT X.K LK W (tDIn neg tb ta) σ H Q) :
    lift X.K LK W fb' tb σ H fun y H1 => lift X.K LK W fa ta σ H1 fun x H2 => ∃ a o, x = .ref a ∧ DGet H2 a y o ∧ Q (if neg then !o.isSome else o.isSome) H2 := by
  obtain ⟨G, L, δ, R, RX, rel, r, q, qx⟩ := h
  exact ⟨G, L, δ, _, _, rel, r, fun sy y L1 H1 hw st1 rel1 res1 => ⟨G, L1, δ, _, _, rel1, hw, fun sx x L2' H2 hw2 st2 rel2 res2 => by
    obtain ⟨a, o, r, e1, e2, e3, e4⟩ := getV_ok (res2.b (fz_le _ _ _ _)) ((res1.step st2).b (fz_le _ _ _ _)) hw2
    refine ⟨a, o, e1, e2, ?_⟩
    have e : o.isSome = r.isSome := by
      rcases e4 with ⟨z1, z2⟩ | ⟨v, d, z1, z2, z3⟩
      · rw [z1, z2]; rfl
      · rw [z1, z2]; rfl
    rw [e]
    exact q _ L2' H2 e3 (st1.trans st2) rel2, fun x c d L' H' h st lk ex => qx x c d L' H' h (st1.trans st) lk ex⟩, fun x c d L' H' h st lk ex => qx x c d L' H' h st lk ex⟩
theorem dt_din (hu : X.A.units + 1 < cLine) (ha : DX X LK W fa a ta) (hb : DX X LK W fb' b tb) (hm : behindInMarks .In b = false := by with_unfolding_all rfl) : DT X LK W (.Compare a [.In] [b] pos) (tDIn false ta tb) :=
  pt_imp (pt_cmp (pc_din hu ha hb) hm) fun σ H Q h => by
    have := tDIn_dx (fa := fb') (fb' := fa) h
    exact lift_imp (fun y H1 h1 => lift_imp (fun x H2 ⟨a, o, e1, e2, e3⟩ => ⟨a, o, e1, e2, _, rfl, e3⟩) h1) this
theorem dt_dnotin (hu : X.A.units + 1 < cLine) (ha : DX X LK W fa a ta) (hb : DX X LK W fb' b tb) (hm : behindInMarks .NotIn b = false := by with_unfolding_all rfl) : DT X LK W (.Compare a [.NotIn] [b] pos) (tDIn true ta tb) :=
  pt_imp (pt_cmp (pc_dnotin hu ha hb) hm) fun σ H Q h => by
    have := tDIn_dx (fa := fb') (fb' := fa) h
    exact lift_imp (fun y H1 h1 => lift_imp (fun x H2 ⟨a, o, e1, e2, e3⟩ => ⟨a, o, e1, e2, _, rfl, e3⟩) h1) this
/-! ### d[k] = e -/
@[simp] def sPutD (i : Nat) (ta tk : TDe) : TDs := fun δ E => ta δ (fun sv => svAt δ i fun s0 => match s0 with
  | .oK kvs => tk δ (fun sk => itemN sv fun d => wD sk fun k => match keyD k with
    | some k => kvs.length < sizeLine ∧ E.nx (δ.set i (some (.oK (putD kvs k d))))
    | none => False) (E.xc δ)
  | _ => False) (E.xc δ)
theorem d_putD (i : Nat) {x : Str} {ix : Expr} {tk : TDe} {p1 p2 : Pos} (hu : X.A.units + 1 < cLine) (he : DX X LK W ff e ta) (hk : DX X LK W fa ix tk) (hN : X.N[i]? = some x := by rfl) (hv : Vis X.env.scope x := by first | exact Or.inl rfl | exact Or.inr (Or.inl rfl) | exact Or.inr (Or.inr rfl)) (hd : (x == ("__debug__" : Str)) = false := by decide) (hcd : (x == ("__classdict__" : Str)) = false := by decide)
    (hs : swapsWithSole [.Subscript (.Name x p1) ix p2] e pos.line X.env = pure false := by rfl) (hw : swappedStores [.Subscript (.Name x p1) ix p2] e X.env = pure none := by rfl) (h1 : (assignEach [.Subscript (.Name x p1) ix p2] X.env).map (·.2) = [assign (.Subscript (.Name x p1) ix p2) X.env] := by rfl)
    (hass : ∀ v, assign (.Subscript (.Name x p1) ix p2) X.env v = (do
      let ov ← holding [v] (eval (.Name x p1) X.env)
      let iv ← holding [v, ov] (eval ix X.env)
      standAt p2
      holding [v, ov, iv] (setItem ov iv v)
      release [v, ov, iv] []) := by intro _; rfl) :
    D1 X LK W (.Assign [.Subscript (.Name x p1) ix p2] e pos) (sPutD i ta tk) :=
  ps_imp (ps_asg he (pg_sub (pe_var hN hv hd hcd) hk (L2.set_dict hu) hass) hs hw h1) fun D σ H ⟨G, L, δ, E, rel, r, q⟩ => ⟨G, L, δ, _, _, rel, r, fun sv y L1 H1 hw st1 rel1 res1 => by
    obtain ⟨s0, h0, r⟩ := svAt_out hw
    cases s0 <;> first | exact r.elim | skip
    rename_i kvs
    obtain ⟨v, hσ, ad, vs, ev, e1, e2⟩ := rel1.sl i _ h0
    subst ev
    refine ⟨_, hσ, G, L1, δ, _, _, rel1, r, fun sk kv L2' H2 hw st2 rel2 res2 => ?_, fun x c d L' H' h st lk ex => xc_of (q.mono st1.2) rel1 x c d h st lk ex⟩
    obtain ⟨d, hd, hw2⟩ := itemN_out hw (res1.step st2).1
    obtain ⟨dk, ek, hw3⟩ := wD_out hw2
    have hk' := asD_ok ek (res2.b (fz_le _ _ _ _))
    split at hw3
    · rename_i k ekk
      obtain ⟨hlen, hnx⟩ := hw3
      have e3 := keyD_ok hk' ekk
      subst e3
      obtain ⟨v', hσ', ad', vs', ev', e1', e2'⟩ := rel2.sl i _ h0
      rw [hσ] at hσ'; cases hσ'; cases ev'
      have hl : vs'.length = kvs.length := paired_len e2'
      refine ⟨ad, _, rfl, DPut.k (hid_le _ _ _ _ e1') (by rw [hl]; exact hlen), q.nx _ L2' σ _ hnx (fun z hz => st2.2 z (st1.2 z hz)) (rel_mut rel2 h0 rfl rfl hσ e1' rfl rfl ⟨ad, _, rfl, ?_, put_ok k hd e2'⟩)⟩
      rw [hid_upd (hid_nl e1')]; exact upd_same
    · exact hw3.elim, fun x c d L' H' h st lk ex => xc_of q rel x c d h st lk ex⟩
end
end DL

namespace DL
open PySem PySem.Spec PyProof.Rows L2

/-! ### own error classes: what the written part must say, as Bools -/
def oexB (K : PySem.W.Frag) (C : Addr) : Bool := match K.lookup C with
  | some ⟨.type t, _, .cls cd, sl⟩ => decide (t = "type") && (match cd.mro, sl.toList with
    | .ref C' :: bm, [_, _, _, _, some (.builtin n), _] => decide (C' = C) && decide (n = "ValueError.__new__") && !cd.hasDel && cd.hasDict && PySem.HandSPX.refsVE bm
    | _, _ => false)
  | _ => false
def errB (K : PySem.W.Frag) (x : Str) (fns : List Str) : Bool :=
  let C := He.ga K x
  oexB K C && decide (PySem.W.findIn K (.ref C) "__setattr__" = some (some (.builtin "object.__setattr__"))) && decide (PySem.W.typeIn K (.ref C) = some (.type "type")) && PySem.W.keepIn K (.ref C) && xfB K C
    && fns.all (fun f => decide (PySem.W.findIn K (.ref C) f = some none))
    && decide (PySem.W.findIn K (.ref C) "__class__" = some (some (.builtin "object.__class__")))
    && decide (PySem.W.specialIn K (.builtin "object.__class__") "__get__" = some (some (.builtin "getset_descriptor.__get__"))) && decide (PySem.W.takesIn K (.builtin "object.__class__") = some true) && decide (PySem.W.mroIn K C (.type "object") = some true)
structure ErrC (K : PySem.W.Frag) (x : Str) (fns : List Str) : Prop where
  oex : OexC K (He.ga K x)
  xf : XfC K (He.ga K x)
  no : ∀ f ∈ fns, PySem.W.findIn K (.ref (He.ga K x)) f = some none
  ca : PySem.W.findIn K (.ref (He.ga K x)) "__class__" = some (some (.builtin "object.__class__"))
  cg : PySem.W.specialIn K (.builtin "object.__class__") "__get__" = some (some (.builtin "getset_descriptor.__get__"))
  ct : PySem.W.takesIn K (.builtin "object.__class__") = some true
  cm : PySem.W.mroIn K (He.ga K x) (.type "object") = some true
theorem oexB_ok {K : PySem.W.Frag} {C : Addr} (h : oexB K C = true) : ∃ nm q N bs bm sn sub ab col dd k0 k1 k2 k3 k5, K.lookup C = some (excClassObj nm q C N bs bm true sn sub ab col dd k0 k1 k2 k3 k5 "ValueError.__new__") ∧ PySem.HandSPX.refsVE bm = true := by
  unfold oexB at h
  split at h
  · rename_i t dd cd sl ho
    rw [Bool.and_eq_true] at h
    obtain ⟨ht, h⟩ := h
    split at h
    · rename_i C' bm k0 k1 k2 k3 n k5 hm hs
      simp only [Bool.and_eq_true, decide_eq_true_eq, Bool.not_eq_true'] at h ht
      obtain ⟨⟨⟨⟨e1, e2⟩, e3⟩, e4⟩, e5⟩ := h
      subst ht e1 e2
      obtain ⟨nm, bs, mro, ns, qn, hd, sn, sub, ab, col, del⟩ := cd
      obtain ⟨l⟩ := sl
      dsimp only at hm hs e3 e4 e5
      subst hm hs e3 e4
      exact ⟨nm, qn, ns, bs, bm, sn, sub, ab, col, dd, k0, k1, k2, k3, k5, ho, e5⟩
    · cases h
  · cases h
theorem errB_ok {K : PySem.W.Frag} {x : Str} {fns : List Str} (h : errB K x fns = true) : ErrC K x fns := by
  unfold errB at h
  simp only [Bool.and_eq_true, decide_eq_true_eq, List.all_eq_true] at h
  obtain ⟨⟨⟨⟨⟨⟨⟨⟨⟨h1, h2⟩, h3⟩, h4⟩, h5⟩, h6⟩, h7⟩, h8⟩, h9⟩, h10⟩ := h
  have xf := xfB_ok h5
  exact ⟨⟨oexB_ok h1, h2, xf.exC, h3, h4⟩, xf, h6, h7, h8, h9, h10⟩
/-! ### __init__ -/
def spI (C : Addr) (fns : List Str) : Sp := fun vs H Q E => ∃ a ws, vs = .ref a :: ws ∧ ws.length = fns.length ∧ H a = some (exo a C none) ∧
  ∀ H2 d, H d = none → H2 a = some (exo a C (some d)) → H2 d = some (exd d (fns.zip ws).reverse) → (∀ b, b ≠ a → b ≠ d → H2 b = H b) → Q .non H2
/-- the class x makes its errors by an own __init__ -/
structure InitOk (P : Program) (w : World) (K : PySem.W.Frag) (mg : Str → Option Value) (base : Heap) (x : Str) (fns : List Str) : Prop where
  cls : ErrC K x fns
  ex : ∃ (fI : Addr) (fd : FuncData) (ps : List Str), PySem.W.findIn K (.ref (He.ga K x)) "__init__" = some (some (.ref fI)) ∧ PySem.W.typeIn K (.ref fI) = some (.type "function") ∧ ps.length = fns.length + 1 ∧
    FnOk P w K mg base (fun _ _ _ _ _ _ => False) 1 fI fd ps (spI (He.ga K x) fns) ∧ Binds K fd ps []
section
variable {P : Program} {w : World} {K : PySem.W.Frag} {mg : Str → Option Value} {base : Heap} {x qual s n n2 n3 f f2 f3 : Str} {params : Arguments} {scope : Scope} {fI : Addr} {fd : FuncData} {p1 p2 p3 p4 q1 q2 q3 q4 r1 r2 r3 r4 : Pos} {sw : Stmt}
theorem init1 (T : ErrC K x [f]) (F : FunD K "__init__" qual params [.Assign [.Attribute (.Name s p1) f p2] (.Name n p3) p4] scope [] [] fI fd) (S : FnScope [s, n] [s, n] scope) (l1 : scope.names.lookup s = some .local := by rfl) (l2 : scope.names.lookup n = some .local := by rfl)
    (d1 : (s == ("__debug__" : Str)) = false := by decide) (c1 : (s == ("__classdict__" : Str)) = false := by decide) (d2 : (n == ("__debug__" : Str)) = false := by decide) (c2 : (n == ("__classdict__" : Str)) = false := by decide)
    (hsw : ∀ env : Env, swapsWith (.Name n p3) (some (.Attribute (.Name s p1) f p2)) p4.line env = pure false := by intro _; rfl) :
    FnOk P w K mg base (fun _ _ _ _ _ _ => False) 1 fI fd [s, n] (spI (He.ga K x) [f]) := by
  refine F.ok S (fun vs H Q E ⟨a, ws, h1, h2, _⟩ => by subst h1; simp [h2]) fun cdv A outer st H vs Q E hr ⟨a, ws, h1, h2, h3, h4⟩ => ⟨_, pss_one (ps_ost (pe_var (i := 0) rfl (.inl l1) d1 c1) (pe_var (i := 1) rfl (.inl l2) d2 c2) (hsw _)), ?_⟩
  subst h1
  obtain ⟨v, rfl⟩ : ∃ v, ws = [v] := by
    cases ws with
    | nil => simp at h2
    | cons v r => cases r with
      | nil => exact ⟨v, rfl⟩
      | cons _ _ => simp at h2
  refine ⟨v, rfl, .ref a, rfl, a, _, rfl, T.oex, T.no f (by simp), .inl ⟨h3, fun dx n0 ne => ?_⟩⟩
  exact h4 _ dx n0 upd_same (by rw [upd_ne ne, upd_same]; rfl) fun b b1 b2 => by rw [upd_ne b1, upd_ne b2]
theorem init2 (T : ErrC K x [f, f2]) (F : FunD K "__init__" qual params [.Assign [.Attribute (.Name s p1) f p2] (.Name n p3) p4, .Assign [.Attribute (.Name s q1) f2 q2] (.Name n2 q3) q4] scope [] [] fI fd) (S : FnScope [s, n, n2] [s, n, n2] scope) (l1 : scope.names.lookup s = some .local := by rfl) (l2 : scope.names.lookup n = some .local := by rfl) (l3 : scope.names.lookup n2 = some .local := by rfl)
    (d1 : (s == ("__debug__" : Str)) = false := by decide) (c1 : (s == ("__classdict__" : Str)) = false := by decide) (d2 : (n == ("__debug__" : Str)) = false := by decide) (c2 : (n == ("__classdict__" : Str)) = false := by decide)
    (d3 : (n2 == ("__debug__" : Str)) = false := by decide) (c3 : (n2 == ("__classdict__" : Str)) = false := by decide)
    (hsw : ∀ env : Env, swapsWith (.Name n p3) (some (.Attribute (.Name s p1) f p2)) p4.line env = pure false := by intro _; rfl) (hsw2 : ∀ env : Env, swapsWith (.Name n2 q3) (some (.Attribute (.Name s q1) f2 q2)) q4.line env = pure false := by intro _; rfl) :
    FnOk P w K mg base (fun _ _ _ _ _ _ => False) 1 fI fd [s, n, n2] (spI (He.ga K x) [f, f2]) := by
  refine F.ok S (fun vs H Q E ⟨a, ws, h1, h2, _⟩ => by subst h1; simp [h2]) fun cdv A outer st H vs Q E hr ⟨a, ws, h1, h2, h3, h4⟩ =>
    ⟨_, pss_cons (ps_ost (pe_var (i := 0) rfl (.inl l1) d1 c1) (pe_var (i := 1) rfl (.inl l2) d2 c2) (hsw _)) (pss_one (ps_ost (pe_var (i := 0) rfl (.inl l1) d1 c1) (pe_var (i := 2) rfl (.inl l3) d3 c3) (hsw2 _))), ?_⟩
  subst h1
  obtain ⟨v, v2, rfl⟩ : ∃ v v2, ws = [v, v2] := by
    rcases ws with _ | ⟨v, _ | ⟨v2, _ | ⟨_, _⟩⟩⟩ <;> simp at h2
    exact ⟨v, v2, rfl⟩
  refine ⟨v, rfl, .ref a, rfl, a, _, rfl, T.oex, T.no f (by simp), .inl ⟨h3, fun dx n0 ne => ?_⟩⟩
  refine ⟨v2, rfl, .ref a, rfl, a, _, rfl, T.oex, T.no f2 (by simp), .inr ⟨dx, [(f, v)], upd_same, by rw [upd_ne ne, upd_same], by simp, ?_⟩⟩
  exact h4 _ dx n0 (by rw [upd_ne (Ne.symm ne), upd_same]) (by rw [upd_same]; rfl) fun b b1 b2 => by rw [upd_ne b2, upd_ne b1, upd_ne b2]
theorem init3 (T : ErrC K x [f, f2, f3]) (F : FunD K "__init__" qual params [.Assign [.Attribute (.Name s p1) f p2] (.Name n p3) p4, .Assign [.Attribute (.Name s q1) f2 q2] (.Name n2 q3) q4, .Assign [.Attribute (.Name s r1) f3 r2] (.Name n3 r3) r4] scope [] [] fI fd) (S : FnScope [s, n, n2, n3] [s, n, n2, n3] scope) (l1 : scope.names.lookup s = some .local := by rfl) (l2 : scope.names.lookup n = some .local := by rfl) (l3 : scope.names.lookup n2 = some .local := by rfl) (l4 : scope.names.lookup n3 = some .local := by rfl)
    (d1 : (s == ("__debug__" : Str)) = false := by decide) (c1 : (s == ("__classdict__" : Str)) = false := by decide) (d2 : (n == ("__debug__" : Str)) = false := by decide) (c2 : (n == ("__classdict__" : Str)) = false := by decide)
    (d3 : (n2 == ("__debug__" : Str)) = false := by decide) (c3 : (n2 == ("__classdict__" : Str)) = false := by decide) (d4 : (n3 == ("__debug__" : Str)) = false := by decide) (c4 : (n3 == ("__classdict__" : Str)) = false := by decide)
    (hsw : ∀ env : Env, swapsWith (.Name n p3) (some (.Attribute (.Name s p1) f p2)) p4.line env = pure false := by intro _; rfl) (hsw2 : ∀ env : Env, swapsWith (.Name n2 q3) (some (.Attribute (.Name s q1) f2 q2)) q4.line env = pure false := by intro _; rfl) (hsw3 : ∀ env : Env, swapsWith (.Name n3 r3) (some (.Attribute (.Name s r1) f3 r2)) r4.line env = pure false := by intro _; rfl) :
    FnOk P w K mg base (fun _ _ _ _ _ _ => False) 1 fI fd [s, n, n2, n3] (spI (He.ga K x) [f, f2, f3]) := by
  refine F.ok S (fun vs H Q E ⟨a, ws, h1, h2, _⟩ => by subst h1; simp [h2]) fun cdv A outer st H vs Q E hr ⟨a, ws, h1, h2, h3, h4⟩ =>
    ⟨_, pss_cons (ps_ost (pe_var (i := 0) rfl (.inl l1) d1 c1) (pe_var (i := 1) rfl (.inl l2) d2 c2) (hsw _)) (pss_cons (ps_ost (pe_var (i := 0) rfl (.inl l1) d1 c1) (pe_var (i := 2) rfl (.inl l3) d3 c3) (hsw2 _)) (pss_one (ps_ost (pe_var (i := 0) rfl (.inl l1) d1 c1) (pe_var (i := 3) rfl (.inl l4) d4 c4) (hsw3 _)))), ?_⟩
  subst h1
  obtain ⟨v, v2, v3, rfl⟩ : ∃ v v2 v3, ws = [v, v2, v3] := by
    rcases ws with _ | ⟨v, _ | ⟨v2, _ | ⟨v3, _ | ⟨_, _⟩⟩⟩⟩ <;> simp at h2
    exact ⟨v, v2, v3, rfl⟩
  refine ⟨v, rfl, .ref a, rfl, a, _, rfl, T.oex, T.no f (by simp), .inl ⟨h3, fun dx n0 ne => ?_⟩⟩
  refine ⟨v2, rfl, .ref a, rfl, a, _, rfl, T.oex, T.no f2 (by simp), .inr ⟨dx, [(f, v)], upd_same, by rw [upd_ne ne, upd_same], by simp, ?_⟩⟩
  refine ⟨v3, rfl, .ref a, rfl, a, _, rfl, T.oex, T.no f3 (by simp), .inr ⟨dx, [(f2, v2), (f, v)], by rw [upd_ne (Ne.symm ne), upd_same], by rw [upd_same], by simp, ?_⟩⟩
  exact h4 _ dx n0 (by rw [upd_ne (Ne.symm ne), upd_ne (Ne.symm ne), upd_same]) (by rw [upd_same]; rfl) fun b b1 b2 => by rw [upd_ne b2, upd_ne b2, upd_ne b1, upd_ne b2]
end
/-! ### raise -/
theorem zipv_look : ∀ {ps : List Str} {us : List V} {i : Nat} {x : Str} {u : V}, ps.Nodup → ps[i]? = some x → us[i]? = some u → (ps.zip us).reverse.lookup x = some u
  | [], _, _, _, _, _, h, _ => by simp at h
  | _ :: _, [], _, _, _, _, _, h => by simp at h
  | p :: ps, v :: us, 0, x, u, nd, h1, h2 => by
    simp at h1 h2
    subst h1 h2
    have hn : (ps.zip us).reverse.lookup p = none := by
      cases e : (ps.zip us).reverse.lookup p with
      | none => rfl
      | some z => exact absurd (List.of_mem_zip (List.mem_reverse.mp (PySem.mem_of_lookup e))).1 (List.nodup_cons.mp nd).1
    rw [List.zip_cons_cons, List.reverse_cons, List.lookup_append, hn]
    simp [List.lookup]
  | p :: ps, v :: us, i + 1, x, u, nd, h1, h2 => by
    have e : (ps.zip us).reverse.lookup x = some u := zipv_look (i := i) (List.nodup_cons.mp nd).2 (by simpa using h1) (by simpa using h2)
    rw [List.zip_cons_cons, List.reverse_cons, List.lookup_append, e]; rfl
section
variable {X : Cx} {LK : Lk} {W : WX} {fl fa fb' : Fl} {e a b c : Expr} {es : List Expr} {pos p : Pos} {ta tb tc : TDe} {tt tu : TDt} {tas : TDa} {st : Stmt} {rest body : List Stmt} {t u : TDs}
@[simp] def sRaise (x : Str) (fns : List Str) (ta : TDa) : TDs := fun δ E => ta δ (fun svs => wDs svs fun ds => ds.length = fns.length ∧ E.xc δ ⟨x, fns.zip ds⟩) (E.xc δ)
theorem pk_nwN {fl : Fl} {G : Gd} {F N : Hp} (h : fl.g = true) (e : Same F N) : Same (pk fl G F N) (nw G N) := by
  obtain ⟨o, g, f⟩ := fl
  obtain rfl : g = true := h
  cases o
  · exact Same.refl _
  · exact nw_mono e
theorem d_raise {x : Str} {fns : List Str} {p2 : Pos} (I : InitOk X.prog X.w X.K X.mg X.base x fns) (nd : fns.Nodup) (tk : Takes X W) (hc : X.calm = true) (hr : Room 2 X.A) (hg : Gl X x) (hm : X.mg x = some (.ref (He.ga X.K x))) (h7 : fns.length ≤ 7) (ha : DA X LK W fl (e :: es) tas) (fg : fl.g = true := by rfl)
    (hdb : (x == ("__debug__" : Str)) = false := by decide) (he : starEach (e :: es) X.env = (false, eval e X.env) :: starEach es X.env := by rfl) (hpl : (backTo pos (starEach es X.env)).any (·.1) = false := by rfl) :
    D1 X LK W (.Raise (some (.Call (.Name x p) (e :: es) [] pos)) none p2) (sRaise x fns tas) := by
  obtain ⟨fI, fd, ps, i1, i2, i3, F, bI⟩ := I.ex
  refine ps_imp (ps_raise hc tk (pmk_oex (CX := fun _ _ _ _ _ _ => False) I.cls.oex i1 i2 F hr bI .nil (fun _ _ _ _ _ _ _ z => z.elim) hg hm ha hdb he hpl)) fun D σ H ⟨G, L, δ, E, rel, r, q⟩ => ⟨G, L, δ, _, _, rel, r, fun svs vs L1 H1 hw st1 rel1 res1 => ?_, fun x c d L' H' h st lk ex => xc_of q rel x c d h st lk ex⟩
  unfold wDs at hw
  split at hw
  · rename_i ds eds
    obtain ⟨_, hl, hx⟩ := hw
    have dp := asDs_ok eds res1
    have hlv : vs.length = ds.length := dpA_len dp
    refine ⟨by omega, fun a na => ?_⟩
    rw [List.append_nil]
    refine ⟨a, vs, rfl, by omega, upd_same, fun H2 d nd2 e1 e2 e3 => ⟨rfl, d, _, e1, e2, ?_, ?_⟩⟩
    · by_cases z : d = a
      · rw [z]; exact na
      · rw [upd_ne z] at nd2; exact nd2
    · have nd1 : H1 d = none := by
        by_cases z : d = a
        · rw [z]; exact na
        · rw [upd_ne z] at nd2; exact nd2
      have da : d ≠ a := fun z => by rw [z, upd_same] at nd2; cases nd2
      have eH : upd (del H2 a) d (.xd (fns.zip vs).reverse) = upd H1 d (.xd (fns.zip vs).reverse) := by
        funext b
        by_cases h1 : b = d
        · rw [h1, upd_same, upd_same]
        · rw [upd_ne h1, upd_ne h1]
          by_cases h2 : b = a
          · rw [h2, del_same, na]
          · rw [del_ne h2, e3 b h2 h1, upd_ne h2]
      rw [eH]
      have st2 := rel1.stepNew (o := .xd (fns.zip vs).reverse) nd1
      refine xc_of q rel _ _ _ hx (st1.trans st2) (rel1.new (o := .xd (fns.zip vs).reverse) nd1).lk ⟨rfl, .inr ⟨d, (fns.zip vs).reverse, rfl, ?_, fun p hp => ?_⟩⟩
      · have nG : G.n d = none := by
          cases z : G.n d with
          | none => rfl
          | some o =>
            have := hid_le _ _ _ _ (fz_le _ _ _ _ _ _ (rel1.gF _ _ z))
            rw [nd1] at this; cases this
        exact nw_new (hid_of (rel1.loose nd1) upd_same rfl) nG
      · obtain ⟨i, hi⟩ := List.mem_iff_getElem?.mp hp
        have hz := List.getElem?_zip_eq_some.mp hi
        obtain ⟨v, hv, dv⟩ := dpA_get' dp hz.2
        refine ⟨v, zipv_look nd hz.1 hv, dp_mono ?_ _ _ dv⟩
        exact (pk_nwN fg (fz_le _ _ _ _)).trans (nw_mono st2.1)
  · exact hw.elim
end
end DL

namespace DL
open PySem PySem.Spec PyProof.Rows L2

/-! ### try with several clauses, each with or without a name -/
abbrev Clz := Value × Option Nat × (Addr → Value → Option Addr → TS)
/-- the ends of a suite whose name goes at its end -/
def endsI (D : Ends) (i : Nat) : Ends := { nx := fun σ' H' => D.nx (σ'.set i none) H', rt := D.rt, bk := fun σ' H' => D.bk (σ'.set i none) H', ct := fun σ' H' => D.ct (σ'.set i none) H' }
def suiteW (D : Ends) (oi : Option Nat) (t : TS) (a : Addr) : L2.St → Hp → Prop := fun σ H => match oi with
  | some i => t (endsI D i) (σ.set i (some (.ref a))) H
  | none => t D σ H
def wCl (K : PySem.W.Frag) (n : Nat) (Wout : WX) (D : Ends) : List Clz → WX
  | [] => Wout
  | (c, oi, ts) :: r => fun cls d σ H => ∃ b, PySem.W.exmOne K cls c = some b ∧ (b = true → σ.length = n → ∀ a, H a = none → suiteW D oi (ts a cls d) a σ H) ∧ (b = false → wCl K n Wout D r cls d σ H)
inductive HdX (X : Cx) : List ExceptHandler → List Clz → Prop
  | nil : HdX X [] []
  | as {x n : Str} {c : Value} {i : Nat} {ts : Addr → Value → Option Addr → TS} {b₀ : Stmt} {suite : List Stmt} {np pos' : Pos} {hds : List ExceptHandler} {l : List Clz} (hc : Names X x c) (hi : X.N[i]? = some n) (hln : X.env.kindOf n = some .local)
      (hsu : ∀ (a : Addr) (oe : Obj) (cls : Value) (d : Option Addr) (pn : List (Addr × Obj)), Zc cls d oe → (∃ vs, oe.data = .fields vs) → PSs (X.suite a ((a, oe) :: pn)) (b₀ :: suite) (ts a cls d)) (r : HdX X hds l) : HdX X (.ExceptHandler (some (.Name x np)) (some n) (b₀ :: suite) pos' :: hds) ((c, some i, ts) :: l)
  | no {x : Str} {c : Value} {ts : Addr → Value → Option Addr → TS} {b₀ : Stmt} {suite : List Stmt} {np pos' : Pos} {hds : List ExceptHandler} {l : List Clz} (hc : Names X x c)
      (hsu : ∀ (a : Addr) (oe : Obj) (cls : Value) (d : Option Addr) (pn : List (Addr × Obj)), Zc cls d oe → (∃ vs, oe.data = .fields vs) → PSs (X.suite a ((a, oe) :: pn)) (b₀ :: suite) (ts a cls d)) (r : HdX X hds l) : HdX X (.ExceptHandler (some (.Name x np)) none (b₀ :: suite) pos' :: hds) ((c, none, ts) :: l)
section
variable {X : Cx} {body : List Stmt} {h₀ : ExceptHandler} {hds : List ExceptHandler} {l : List Clz} {pos : Pos} {tb : WX → TS} {Wout : WX}
theorem ps_tryX (hs : X.stack = X.env :: X.outer) (hf : X.env.frame = some X.env.locals) (hN : X.N.Nodup) (tk : Takes X Wout)
    (hb : ∀ (W : WX) (pn : List (Addr × Obj)) (xe : Value → Shared → Prop), Takes (X.tr pn xe) W → PassesOwn (model X.prog X.w) X.A X.env xe → PSs (X.tr pn xe) body (tb W))
    (hh : HdX X (h₀ :: hds) l) : PS X (.Try body (h₀ :: hds) [] [] pos) (fun D σ H => tb (wCl X.K X.N.length Wout D l) D σ H) := by
  refine ⟨fun pins s σ H D I h => wpAny_Try_except ?_⟩
  have ok := I.ok
  have fr : X.A.frames = some (X.env :: X.outer) := ok.frames.trans (congrArg some hs)
  have body' := hb (wCl X.K X.N.length Wout D l) (X.pn ++ pins) (fun e s₁ => wpAny (model X.prog X.w) X.A (noteFrame e X.env) (fun _ s₂ => wpAny (model X.prog X.w) X.A (setFlight e none) (fun _ s₃ =>
    wpAny (model X.prog X.w) X.A (handleBy e X.env (h₀ :: hds)) (SP X pins D) X.xe s₃) X.xe s₂) X.xe s₁)
  refine wpAny_mono ((body' (fun u s' z => ?_) PassesOwn.looking).run [] s σ H D (I.toTry _) h) (fun f s1 hsp => ?_) fun _ _ z => z
  · obtain ⟨a, B, sI, pins', σ', H', cls, d, rfl, J', nb, up, sky, na, os, ag, w⟩ := z
    have J : Inv X pins σ' H' sI := J'.ofTry ok
    have ln : σ'.length = X.N.length := J.len
    rw [hs] at sky
    show wpAny (model X.prog X.w) X.A (noteFrame (.ref a) X.env) _ _ _
    refine Sky.land Zc.steady fr hf sky fun h3 fl3 up3 => ?_
    have J3 : Inv X pins σ' H' { s' with heap := h3 } := J.landed nb fl3.1 (up.trans up3) os ag
    obtain ⟨oe3, vs3, he3, hz3, hd3⟩ := fl3.there
    have out : a ∉ frs (X.env :: X.outer) := fun hm => by
      obtain ⟨_, o', e', hnf⟩ := fl3.2.2.1.mem hm
      rw [he3] at e'
      exact hnf _ ((congrArg Obj.data (Option.some.inj e')).symm.trans hd3)
    have nL : a ≠ X.env.locals := fun z => out (List.mem_filterMap.mpr ⟨X.env, List.mem_cons_self, by rw [hf, z]⟩)
    have nF : a ∉ X.fs := fun hm => by
      obtain ⟨e, he, q⟩ := List.mem_filterMap.mp hm
      exact out (List.mem_filterMap.mpr ⟨e, List.mem_cons_of_mem _ he, q⟩)
    have S3 := J3.suite he3 hd3 na nL nF
    have LT : PySem.W.Looks (model X.prog X.w) h3 (typeOf (.ref a)) cls := fun A Q E s k q => wpAny_typeOf_ref (k _ _ he3) (by rw [hz3.1]; exact q)
    have test : ∀ {x : Str} {c : Value} {np : Pos} {Q E : Value → Shared → Prop}, Names X x c → Q c { s' with heap := h3 } → wpAny (model X.prog X.w) (X.A.mark (some (.ref a))) (eval (.Name x np) X.env) Q E { s' with heap := h3 } := fun {x c np Q E} hc q => by
      obtain ⟨hg, hdbg, hm | ⟨hm, hv, hnn⟩⟩ := hc
      · exact ld_glob (X := X.suite a ((a, oe3) :: (X.pn ++ pins))) S3 hg hm q hdbg
      · exact ld_blt (X := X.suite a ((a, oe3) :: (X.pn ++ pins))) S3 hg hm hv q hnn hdbg
    have go : ∀ {hds' : List ExceptHandler} {l' : List Clz}, HdX X hds' l' → wCl X.K X.N.length Wout D l' cls d σ' H' → wpAny (model X.prog X.w) X.A (handleBy (.ref a) X.env hds') (SP X pins D) X.xe { s' with heap := h3 } := by
      intro hds' l' hk
      induction hk with
      | nil =>
        intro w
        obtain ⟨_, _, _, oe, vs, T, oT, ts', he, hz, hd, h1, hr⟩ := id fl3
        refine wpAny_handleBy_nil ?_
        unfold PySem.passOn
        refine wpAny_bind (wpAny_field he hd h1 ?_)
        rw [if_neg (by simp : ¬ ((Value.ref T == Value.none) = true))]
        have last : wpAny (model X.prog X.w) X.A (setFlight (.ref a) X.env.frame) (fun _ s4 => wpAny (model X.prog X.w) X.A (throw (.ref a) : Sem Flow) (SP X pins D) X.xe s4) X.xe { s' with heap := h3 } := by
          rw [hf]
          exact HandSPX.setFlight_upZ fl3 fun h4 hh4 up4 => wpAny_throw (tk _ _ ⟨a, B, sI, pins, σ', H', cls, d, rfl, J, nb, (up.trans up3).trans up4, .inr (.inr (by rw [hs]; exact hh4)), na, os, ag, w⟩)
        first
          | exact wpAny_bind last
          | exact wpAny_bind (wpAny_pure (wpAny_bind last))
      | no hc hsu r ih =>
        intro ⟨b, hb1, hyes, hno⟩
        refine wpAny_handleBy_cons (codeAny_handlers_test (test hc ((PySem.W.exm_one (M := model X.prog X.w) J3.kIn LT hb1).here ?_))) (by intro q; cases q)
        cases b with
        | false => exact ih (hno rfl)
        | true =>
          refine codeAny_handlers_suite (HandSPX.lands_againZ fl3 fun h4 fl4 up4 => ?_)
          obtain ⟨oe4, vs4, he4, hz4, hd4⟩ := fl4.there
          have J4 : Inv X pins σ' H' { s' with heap := h4 } := J.landed nb fl4.1 ((up.trans up3).trans up4) os ag
          refine wpAny_mono ((hsu a oe4 cls d (X.pn ++ pins) hz4 ⟨_, hd4⟩).run [] _ _ H' _ (J4.suite he4 hd4 na nL nF) (hyes rfl ln a na)) (fun f s6 hsp => ?_) (fun _ _ z => False.elim z)
          cases f with
          | ret u => exact let ⟨v6, σ6, H6, S6, r6, q6⟩ := hsp; ⟨v6, σ6, H6, S6.unsuite ok, r6, q6⟩
          | next => exact let ⟨σ6, H6, S6, q6⟩ := hsp; ⟨σ6, H6, S6.unsuite ok, q6⟩
          | brk => exact let ⟨σ6, H6, S6, q6⟩ := hsp; ⟨σ6, H6, S6.unsuite ok, q6⟩
          | cont => exact let ⟨σ6, H6, S6, q6⟩ := hsp; ⟨σ6, H6, S6.unsuite ok, q6⟩
      | @as x n c i ts b₀ suite np pos' hds2 l2 hc hi hln hsu r ih =>
        intro ⟨b, hb1, hyes, hno⟩
        refine wpAny_handleBy_cons (codeAny_handlers_test (test hc ((PySem.W.exm_one (M := model X.prog X.w) J3.kIn LT hb1).here ?_))) (by intro q; cases q)
        cases b with
        | false => exact ih (hno rfl)
        | true =>
          refine codeAny_handlers_suite_as (HandSPX.lands_againZ fl3 fun h4 fl4 up4 => ?_)
          obtain ⟨oe4, vs4, he4, hz4, hd4⟩ := fl4.there
          have J4 : Inv X pins σ' H' { s' with heap := h4 } := J.landed nb fl4.1 ((up.trans up3).trans up4) os ag
          refine store_ok (X := X.suite a ((a, oe4) :: (X.pn ++ pins))) (v := .ref a) (J4.suite he4 hd4 na nL nF) hN hi (.inl hln) rfl (fun s5 S5 => ?_) (.inr hln)
          refine wpAny_mono ((hsu a oe4 cls d (X.pn ++ pins) hz4 ⟨_, hd4⟩).run [] s5 _ H' _ S5 (hyes rfl ln a na)) (fun f s6 hsp => ?_) (fun _ _ z => False.elim z)
          have away : ∀ {σ6 : L2.St} {H6 : Hp} {Q : Shared → Prop}, Inv (X.suite a ((a, oe4) :: (X.pn ++ pins))) [] σ6 H6 s6 → (∀ s7, Inv X pins (σ6.set i none) H6 s7 → Q s7) → wpAny (model X.prog X.w) X.A (do bindName X.env n .none; unbindBehindTheSuite X.env n pos') (fun _ s7 => Q s7) X.xe s6 :=
            fun {σ6 H6 Q} S6 hq => gone_ok (S6.unsuite ok) hN hi hln hq
          cases f with
          | ret u => exact let ⟨v6, σ6, H6, S6, r6, q6⟩ := hsp; away S6 fun s7 J7 => ⟨v6, _, _, J7, r6, q6⟩
          | next => exact let ⟨σ6, H6, S6, q6⟩ := hsp; away S6 fun s7 J7 => ⟨_, _, J7, q6⟩
          | brk => exact let ⟨σ6, H6, S6, q6⟩ := hsp; away S6 fun s7 J7 => ⟨_, _, J7, q6⟩
          | cont => exact let ⟨σ6, H6, S6, q6⟩ := hsp; away S6 fun s7 J7 => ⟨_, _, J7, q6⟩
    exact go hh w
  · cases f with
    | ret u => exact let ⟨v, σ', H', J', r, q⟩ := hsp; ⟨v, σ', H', J'.ofTry ok, r, q⟩
    | next => exact let ⟨σ', H', J', q⟩ := hsp; wpAny_execs_nil ⟨σ', H', J'.ofTry ok, q⟩
    | brk => exact let ⟨σ', H', J', q⟩ := hsp; ⟨σ', H', J'.ofTry ok, q⟩
    | cont => exact let ⟨σ', H', J', q⟩ := hsp; ⟨σ', H', J'.ofTry ok, q⟩
end
/-! ### .. over data -/
/-- a clause: which classes it takes, the slot of its name, its suite -/
structure Clause where
  m : Str → Bool
  i : Option Nat
  t : Addr → Value → Option Addr → TDs
def putX (δ : DS) (oi : Option Nat) (s : SV) : DS := match oi with
  | some i => δ.set i (some s)
  | none => δ
@[simp] theorem putX_some (δ : DS) (i : Nat) (s : SV) : putX δ (some i) s = δ.set i (some s) := rfl
@[simp] theorem putX_none (δ : DS) (s : SV) : putX δ none s = δ := rfl
def endsX (E : EndsD) (oi : Option Nat) : EndsD := match oi with
  | some i => { nx := fun δ' => E.nx (δ'.set i none), rt := E.rt, xc := fun _ _ => False, bk := fun δ' => E.bk (δ'.set i none), ct := fun δ' => E.ct (δ'.set i none) }
  | none => { E with xc := fun _ _ => False }
@[simp] theorem endsX_some (E : EndsD) (i : Nat) : endsX E (some i) = { nx := fun δ' => E.nx (δ'.set i none), rt := E.rt, xc := fun _ _ => False, bk := fun δ' => E.bk (δ'.set i none), ct := fun δ' => E.ct (δ'.set i none) } := rfl
@[simp] theorem endsX_none (E : EndsD) : endsX E none = { E with xc := fun _ _ => False } := rfl
def nolX (x : Exn) : Bool := x.fs.all fun p => nolist p.2
def sCl (kn : List Str) (E : EndsD) (δ : DS) : List Clause → Exn → Prop
  | [], x => E.xc δ x
  | c :: r, x => kn.contains x.cls = true ∧ nolX x = true ∧ (if c.m x.cls = true then ∀ a cv d, c.t a cv d (putX δ c.i (.xn a cv d x)) (endsX E c.i) else sCl kn E δ r x)
@[simp] def sTry (kn : List Str) (t : TDs) (cl : List Clause) : TDs := fun δ E => t δ { E with xc := fun δ' => sCl kn E δ' cl }
theorem rel_unset {K : PySem.W.Frag} {LK : Lk} {G : Gd} {L : Ls} {δ : DS} {σ : L2.St} {H : Hp} (i : Nat) (rel : Rel K LK G L δ σ H) : Rel K LK G L (δ.set i none) (σ.set i none) H := by
  have get : ∀ {j : Nat} {s : SV}, (δ.set i none)[j]? = some (some s) → j ≠ i ∧ δ[j]? = some (some s) := fun {j s} h => by
    by_cases hj : j = i
    · subst hj
      have hl : j < δ.length := by
        have := (List.getElem?_eq_some_iff.mp h).1
        simpa using this
      rw [List.getElem?_set_self hl] at h
      cases h
    · rw [List.getElem?_set_ne (Ne.symm hj)] at h
      exact ⟨hj, h⟩
  have gs : ∀ {j : Nat}, j ≠ i → (σ.set i none)[j]? = σ[j]? := fun {j} hj => List.getElem?_set_ne (Ne.symm hj)
  have sub : Same (fz L δ σ H) (fz L (δ.set i none) (σ.set i none) H) := fun b o h => fz_of (fz_le _ _ _ _ _ _ h) fun ⟨j, s, h1, h2, h3⟩ => by
    obtain ⟨hj, h1⟩ := get h1
    rw [gs hj] at h3
    exact fz_not h ⟨j, s, h1, h2, h3⟩
  refine ⟨rel.gn, rel.g.trans sub, rel.lk, fun j s h => ?_, fun j k b sj sk hjk h1 h2 o1 o2 e1 e2 => ?_, by simp [rel.ln]⟩
  · obtain ⟨hj, h⟩ := get h
    obtain ⟨v, h1, h2⟩ := rel.sl j s h
    exact ⟨v, by rw [gs hj]; exact h1, slotOk_mono sub (Same.refl _) (fun _ z => z) h2⟩
  · obtain ⟨hj, h1⟩ := get h1
    obtain ⟨hk, h2⟩ := get h2
    rw [gs hj] at e1
    rw [gs hk] at e2
    exact rel.ow j k b sj sk hjk h1 h2 o1 o2 e1 e2
theorem exOk_nol {K : PySem.W.Frag} {M M' : Hp} {x : Exn} {c : Value} {d : Option Addr} (n : nolX x = true) (xd : ∀ a fs, M a = some (.xd fs) → M' a = some (.xd fs)) (tup : ∀ a xs, SqT K M a xs → SqT K M' a xs) (h : ExOk K M x c d) : ExOk K M' x c d :=
  ⟨h.1, h.2.imp_right fun ⟨dd, fs, h1, h2, h3⟩ => ⟨dd, fs, h1, xd _ _ h2, fun p hp => let ⟨v, a, b⟩ := h3 p hp; ⟨v, a, dp_nolist tup _ _ (List.all_eq_true.mp n p hp) b⟩⟩⟩
theorem rel_putX {K : PySem.W.Frag} {LK : Lk} {G : Gd} {L : Ls} {δ : DS} {σ : L2.St} {H : Hp} {i : Nat} {a : Addr} {cv : Value} {d : Option Addr} {x : Exn} (rel : Rel K LK G L δ σ H) (n : nolX x = true) (ex : ExOk K (nw G (hid L H)) x cv d) : Rel K LK G L (δ.set i (some (.xn a cv d x))) (σ.set i (some (.ref a))) H := by
  refine rel.put (Step.refl _ _) rel.lk (fun z => nomatch z) ⟨rfl, ?_⟩
  have sub := fz_set (i := i) (sv := .xn a cv d x) (v := .ref a) rel rfl
  exact exOk_nol n (fun b fs e => sub _ _ (rel.immF rfl (nw_le _ _ _ _ e))) (fun b xs s => same_sqT sub (rel.tupF (same_sqT (nw_le _ _) s))) ex
section
variable {X : Cx} {LK : Lk} {W : WX} {body suite : List Stmt} {pos np pos' : Pos} {t u : TDs} {hds : List ExceptHandler} {h₀ : ExceptHandler} {l : List Clause}
/-- the clauses of the text, by their data -/
inductive HdD (X : Cx) (LK : Lk) (kn : List Str) : List ExceptHandler → List Clz → List Clause → Prop
  | nil : HdD X LK kn [] [] []
  | as {x n : Str} {i : Nat} {b₀ : Stmt} {suite : List Stmt} {np pos' : Pos} {hds : List ExceptHandler} {lz : List Clz} {l : List Clause} {m : Str → Bool} {t : Addr → Value → Option Addr → TDs} (hc : Names X x (.ref (He.ga X.K x))) (hm : ∀ y ∈ kn, PySem.W.exmOne X.K (.ref (He.ga X.K y)) (.ref (He.ga X.K x)) = some (m y)) (hi : X.N[i]? = some n) (hln : X.env.kindOf n = some .local)
      (hsu : ∀ (a : Addr) (oe : Obj) (cls : Value) (d : Option Addr) (pn : List (Addr × Obj)), Zc cls d oe → (∃ vs, oe.data = .fields vs) → Ds (X.suite a ((a, oe) :: pn)) LK (fun _ _ _ _ => False) (b₀ :: suite) (t a cls d)) (r : HdD X LK kn hds lz l) :
      HdD X LK kn (.ExceptHandler (some (.Name x np)) (some n) (b₀ :: suite) pos' :: hds) ((.ref (He.ga X.K x), some i, fun a c d => liftS X.K LK (fun _ _ _ _ => False) (t a c d)) :: lz) (⟨m, some i, t⟩ :: l)
  | no {x : Str} {b₀ : Stmt} {suite : List Stmt} {np pos' : Pos} {hds : List ExceptHandler} {lz : List Clz} {l : List Clause} {m : Str → Bool} {t : Addr → Value → Option Addr → TDs} (hc : Names X x (.ref (He.ga X.K x))) (hm : ∀ y ∈ kn, PySem.W.exmOne X.K (.ref (He.ga X.K y)) (.ref (He.ga X.K x)) = some (m y))
      (hsu : ∀ (a : Addr) (oe : Obj) (cls : Value) (d : Option Addr) (pn : List (Addr × Obj)), Zc cls d oe → (∃ vs, oe.data = .fields vs) → Ds (X.suite a ((a, oe) :: pn)) LK (fun _ _ _ _ => False) (b₀ :: suite) (t a cls d)) (r : HdD X LK kn hds lz l) :
      HdD X LK kn (.ExceptHandler (some (.Name x np)) none (b₀ :: suite) pos' :: hds) ((.ref (He.ga X.K x), none, fun a c d => liftS X.K LK (fun _ _ _ _ => False) (t a c d)) :: lz) (⟨m, none, t⟩ :: l)
theorem HdD.x {kn : List Str} {lz : List Clz} (h : HdD X LK kn hds lz l) : HdX X hds lz := by
  induction h with
  | nil => exact .nil
  | as hc hm hi hln hsu r ih => exact .as hc hi hln hsu ih
  | no hc hm hsu r ih => exact .no hc hsu ih
theorem HdD.w {kn : List Str} {lz : List Clz} {G : Gd} {L L' : Ls} {E : EndsD} {D : Ends} {x : Exn} {c : Value} {d : Option Addr} {δ' : DS} {σ' : L2.St} {H' : Hp} (hd : HdD X LK kn hds lz l) (q : EndsOk X.K LK W G L E D) (h : sCl kn E δ' l x) (hl : ∀ a, L a = true → L' a = true) (rel : Rel X.K LK G L' δ' σ' H')
    (ex : ExOk X.K (nw G (hid L' H')) x c d) : wCl X.K X.N.length W D lz c d σ' H' := by
  have run : ∀ (oi : Option Nat) (t : Addr → Value → Option Addr → TDs) (a : Addr), nolX x = true → (∀ a cv d, t a cv d (putX δ' oi (.xn a cv d x)) (endsX E oi)) → suiteW D oi (liftS X.K LK (fun _ _ _ _ => False) (t a c d)) a σ' H' := fun oi t a nx ht => by
    have q1 := q.mono hl
    cases oi with
    | none => exact ⟨G, L', _, _, rel, ht a c d, ⟨q1.nx, q1.bk, q1.ct, q1.rt, fun _ _ _ _ _ _ _ h => h.elim⟩⟩
    | some i =>
      exact ⟨G, L', _, _, rel_putX rel nx ex, ht a c d, ⟨fun δ2 L2' σ2 H2 h hm r => q1.nx _ L2' _ H2 h hm (rel_unset i r), fun δ2 L2' σ2 H2 h hm r => q1.bk _ L2' _ H2 h hm (rel_unset i r), fun δ2 L2' σ2 H2 h hm r => q1.ct _ L2' _ H2 h hm (rel_unset i r), q1.rt, fun _ _ _ _ _ _ _ h => h.elim⟩⟩
  induction hd with
  | nil => exact q.xc x c d δ' L' σ' H' h hl rel ex
  | as hc hm hi hln hsu r ih =>
    obtain ⟨k, nx, h⟩ := h
    refine ⟨_, by rw [ex.1]; exact hm _ (by simpa using k), fun hb ln a na => ?_, fun hb => ?_⟩
    · rw [if_pos hb] at h
      exact run (some _) _ a nx h
    · rw [if_neg (fun z => by have z' := hb.symm.trans z; cases z')] at h
      exact ih h
  | no hc hm hsu r ih =>
    obtain ⟨k, nx, h⟩ := h
    refine ⟨_, by rw [ex.1]; exact hm _ (by simpa using k), fun hb ln a na => ?_, fun hb => ?_⟩
    · rw [if_pos hb] at h
      exact run none _ a nx h
    · rw [if_neg (fun z => by have z' := hb.symm.trans z; cases z')] at h
      exact ih h
theorem d_try {kn : List Str} {lz : List Clz} (hs : X.stack = X.env :: X.outer) (hf : X.env.frame = some X.env.locals) (hN : X.N.Nodup) (tk : Takes X W)
    (hb : ∀ (W : WX) (pn : List (Addr × Obj)) (xe : Value → Shared → Prop), Takes (X.tr pn xe) W → PassesOwn (model X.prog X.w) X.A X.env xe → Ds (X.tr pn xe) LK W body t)
    (hh : HdD X LK kn (h₀ :: hds) lz l) : D1 X LK W (.Try body (h₀ :: hds) [] [] pos) (sTry kn t l) :=
  ps_imp (ps_tryX (tb := fun W => liftS X.K LK W t) hs hf hN tk (fun W pn xe tk' po => hb W pn xe tk' po) hh.x) fun D σ H ⟨G, L, δ, E, rel, r, q⟩ => ⟨G, L, δ, _, rel, r, ⟨q.nx, q.bk, q.ct, q.rt, fun x c d δ' L' σ' H' h hl rel' ex => hh.w q h hl rel' ex⟩⟩
end
/-! ### in an except suite: e.f, isinstance(e, C) -/
section
variable {X : Cx} {LK : Lk} {W : WX} {a : Addr} {oe : Obj} {cls : Value} {d : Option Addr} {pn : List (Addr × Obj)} {pos p1 p p2 : Pos} {f y n : Str}
@[simp] def eXf (a : Addr) (c : Value) (d : Option Addr) (kn : List Str) (i : Nat) (f : Str) : TDe := fun δ R _ => svAt δ i fun s => ∃ x, s = .xn a c d x ∧ kn.contains x.cls = true ∧ someD (x.fs.lookup f) R
theorem lookup_memD {l : List (Str × PyData)} {f : Str} {v : PyData} (h : l.lookup f = some v) : (f, v) ∈ l := PySem.mem_of_lookup h
theorem dx_xf {kn : List Str} (hk : ∀ y ∈ kn, XfC X.K (He.ga X.K y) ∧ PySem.W.findIn X.K (.ref (He.ga X.K y)) f = some none) (hz : Zc cls d oe) (hf : ∃ vs, oe.data = .fields vs) (i : Nat) (hN : X.N[i]? = some n := by rfl) (hv : Vis X.env.scope n := by first | exact Or.inl rfl | exact Or.inr (Or.inl rfl) | exact Or.inr (Or.inr rfl)) (hd : (n == ("__debug__" : Str)) = false := by decide) (hcd : (n == ("__classdict__" : Str)) = false := by decide)
    (hb : attributeBase (.Name n p1) f X.env (eval (.Name n p1) X.env) = eval (.Name n p1) X.env := by rfl) : DX (X.suite a ((a, oe) :: pn)) LK W fs (.Attribute (.Name n p1) f pos) (eXf a cls d kn i f) := by
  refine ⟨fun pins s σ H Q I h => ?_⟩
  obtain ⟨G, L, δ, R, RX, rel, r, q, qx⟩ := h
  obtain ⟨s0, h0, r⟩ := svAt_out r
  obtain ⟨x, rfl, hkn, r⟩ := r
  obtain ⟨v, hσ, ev, ec, ex⟩ := rel.sl i _ h0
  subst ev
  obtain ⟨xf, no⟩ := hk x.cls (by simpa using hkn)
  refine (pe_xf (C := He.ga X.K x.cls) xf no hz hf (pe_var (X := X.suite a ((a, oe) :: pn)) hN hv hd hcd) hb).run pins s σ H Q I ?_
  cases e : x.fs.lookup f with
  | none => rw [e] at r; exact r.elim
  | some dv =>
    rw [e] at r
    rcases ex with ⟨_, e0⟩ | ⟨dd, fs, e1, e2, e3⟩
    · rw [e0] at e; cases e
    · obtain ⟨v, e4, e5⟩ := e3 _ (lookup_memD e)
      exact ⟨_, hσ, rfl, ec, dd, fs, v, e1, hid_le _ _ _ _ (fz_le _ _ _ _ _ _ e2), e4, q (.d dv) v L H r (Step.refl _ _) rel ⟨e5, fun _ z => nomatch z⟩⟩
@[simp] def eXis (a : Addr) (c : Value) (d : Option Addr) (kn : List Str) (m : Str → Bool) (i : Nat) : TDe := fun δ R _ => svAt δ i fun s => ∃ x, s = .xn a c d x ∧ kn.contains x.cls = true ∧ R (.d (.bool (m x.cls)))
def rIsX (K : PySem.W.Frag) (cls : Value) (d : Option Addr) (a : Addr) : List V → Hp → VK → Prop := fun xs H Q => ∃ (C : Addr) (c : V) (cv : Value) (b : Bool), xs = [.ref a, c] ∧ (∀ u, RelV c u → u = cv) ∧ cls = .ref C ∧ ExcC K C ∧ (d = none ∨ ∃ dd fs, d = some dd ∧ H dd = some (.xd fs)) ∧ PySem.W.kitOne K (.ref C) cv = some b ∧ Q (.bl b) H
theorem call_isX (hz : Zc cls d oe) (hf : ∃ vs, oe.data = .fields vs) : CallR (X.suite a ((a, oe) :: pn)) (.builtin "isinstance") (rIsX X.K cls d a) := by
  intro pins s σ H xs us Q I r h
  obtain ⟨C, c, cv, b, rfl, hcv, rfl, T, hdd, e, q⟩ := h
  cases r with
  | cons rx rr => cases rr with
    | @cons _ u' _ _ rt rr =>
      cases rr
      cases rx
      have ec := hcv _ rt
      subst ec
      have hget := (I.pin (a, oe) (List.mem_append.mpr (.inl List.mem_cons_self))).1
      obtain ⟨vs, hv⟩ := hf
      have fin : ∀ od, PySem.W.InstAt s.heap a oe C od → wpAny (model X.prog X.w) (X.suite a ((a, oe) :: pn)).A (call (.builtin "isinstance") [.ref a, u']) (EP (X.suite a ((a, oe) :: pn)) pins σ Q) (X.suite a ((a, oe) :: pn)).xe s := fun od J => by
        have hcl : (PySem.W.clsIn X.K C).isSome = true := by
          obtain ⟨cd, hc, _⟩ := PySem.W.any_some T.hd
          rw [hc]; rfl
        exact PySem.W.kia_one (PySem.W.kitx_exc hcl T.hg T.hk T.hs T.ha T.hn T.ht T.hm) I.kIn J e (fun z => nomatch z) fun tk => ⟨.bl b, H, I.kept (t' := tk) fun _ _ z => z, rfl, q⟩
      have nc : PySem.W.notCls oe = true := by unfold PySem.W.notCls; rw [hv]
      rcases hdd with rfl | ⟨dd, fs, rfl, ed⟩
      · exact fin none ⟨hget, hz.1, nc, by rw [hz.2]; trivial⟩
      · have hx : ObjOk X.prog X.w H s.heap dd (.xd fs) := I.hok dd _ ed
        obtain ⟨mA, hns, hr⟩ := hx
        obtain ⟨od, ho, hl⟩ := lookIn_ns hns
        exact fin (some od) ⟨hget, hz.1, nc, by rw [hz.2]; exact ho⟩
theorem dx_xis {kn : List Str} {m : Str → Bool} {c : V} {cv : Value} (hk : ∀ y ∈ kn, ExcC X.K (He.ga X.K y) ∧ PySem.W.kitOne X.K (.ref (He.ga X.K y)) cv = some (m y)) (hz : Zc cls d oe) (hf : ∃ vs, oe.data = .fields vs) (i : Nat) (hcv : ∀ u, RelV c u → u = cv) (hy : PE (X.suite a ((a, oe) :: pn)) (.Name y p2) (tC c))
    (hg : Gl X "isinstance") (hm : X.mg "isinstance" = none) (hvb : bootBuiltins "isinstance" = some (.builtin "isinstance")) (hN : X.N[i]? = some n := by rfl) (hv : Vis X.env.scope n := by first | exact Or.inl rfl | exact Or.inr (Or.inl rfl) | exact Or.inr (Or.inr rfl)) (hd : (n == ("__debug__" : Str)) = false := by decide) (hcd : (n == ("__classdict__" : Str)) = false := by decide)
    (hs : starEach [.Name n p1, .Name y p2] X.env = (false, eval (.Name n p1) X.env) :: starEach [.Name y p2] X.env := by rfl) (hs2 : starEach [.Name y p2] X.env = (false, eval (.Name y p2) X.env) :: starEach [] X.env := by rfl) (hpl : (backTo pos (starEach [.Name y p2] X.env)).any (·.1) = false := by rfl) :
    DX (X.suite a ((a, oe) :: pn)) LK W ff (.Call (.Name "isinstance" p) [.Name n p1, .Name y p2] [] pos) (eXis a cls d kn m i) :=
  pe_imp (pe_callB (X := X.suite a ((a, oe) :: pn)) (call_isX hz hf) hg hm hvb (pa_cons (pe_var (X := X.suite a ((a, oe) :: pn)) hN hv hd hcd) (pa_cons hy pa_nil hs2) hs) (by decide) (by decide) hs hpl) fun σ H Q ⟨G, L, δ, R, RX, rel, r, q, qx⟩ => by
    obtain ⟨s0, h0, r⟩ := svAt_out r
    obtain ⟨x, rfl, hkn, r⟩ := r
    obtain ⟨v, hσ, ev, ec, ex⟩ := rel.sl i _ h0
    subst ev
    obtain ⟨T, hit⟩ := hk x.cls (by simpa using hkn)
    refine ⟨_, hσ, He.ga X.K x.cls, c, cv, m x.cls, rfl, hcv, ec, T, ?_, hit, q _ _ L H r (Step.refl _ _) rel (res_sc fun _ => Dp.bl _)⟩
    rcases ex with ⟨e0, _⟩ | ⟨dd, fs, e1, e2, e3⟩
    · exact .inl e0
    · exact .inr ⟨dd, fs, e1, hid_le _ _ _ _ (fz_le _ _ _ _ _ _ e2)⟩
theorem ErrC.excC {K : PySem.W.Frag} {x : Str} {fns : List Str} (T : ErrC K x fns) : ExcC K (He.ga K x) := ⟨T.xf.ga, T.xf.gg, T.xf.exC, T.xf.hdC, T.ca, T.cg, T.ct, T.cm⟩
end
end DL

namespace DL
open PySem PySem.Spec PyProof.Rows L2 LamX NdefX

/-! ### functions of one argument as values -/
abbrev FnD := PyData → (PyData → Prop) → Prop
/-- nothing untracked has changed but frames' slots -/
def Later (s : Shared) (H : Hp) (s1 : Shared) (H1 : Hp) : Prop := ∀ b o, s.heap.get? b = some o → H b = none → (∃ sl, s1.heap.get? b = some { o with slots := sl }) ∧ H1 b = none
theorem later_of {X : Cx} {pins : List (Addr × Obj)} {σ : L2.St} {H : Hp} {s : Shared} (I : Inv X pins σ H s) (hex : X.ex = []) : Later X.s_0 X.H_0 s H := fun b o e n =>
  have nx : b ∉ X.ex := by rw [hex]; simp
  ⟨I.base.any e n nx, I.base.free b o e n nx⟩
theorem cells_later {cl : List (Str × Addr)} {fr : List Str} {ws : List (Option V)} {s s1 : Shared} {H H1 : Hp} (C : CellsAt cl fr ws s.heap H) (l : Later s H s1 H1) : CellsAt cl fr ws s1.heap H1 := by
  have kp : ∀ c v, H c = none → s.heap.IsCell c v → s1.heap.IsCell c v := fun c v n ⟨o, ho, hd⟩ => by
    obtain ⟨⟨sl, q⟩, _⟩ := l c o ho n
    exact ⟨_, q, hd⟩
  refine ⟨C.len, fun y c e => ?_, C.inj, fun i y e => ?_⟩
  · obtain ⟨n, v, z⟩ := C.all y c e
    obtain ⟨o, ho, hd⟩ := id z
    exact ⟨(l c o ho n).2, v, kp c _ n z⟩
  · obtain ⟨c, hc, hv⟩ := C.has i y e
    refine ⟨c, hc, fun v ev => ?_⟩
    obtain ⟨u, r, z⟩ := hv v ev
    exact ⟨u, r, kp c _ (C.all y c hc).1 z⟩
abbrev CXF : CXT := fun _ _ _ _ _ _ => False
/-- the function at f keeps F, called at any state behind (s, H), as long as kf stands -/
structure CapR (P : Program) (w : World) (K : PySem.W.Frag) (mg : Str → Option Value) (base : Heap) (LK : Lk) (k : Nat) (s : Shared) (H : Hp) (kf : Hp) (f : Addr) (F : FnD) : Prop where
  fn : ∀ (H1 : Hp) (h : Heap), HOk P w H1 h → Same kf H1 → PySem.W.FnAt f h
  run : ∀ (A : Around) (outer : List Env) (s1 : Shared) (H1 : Hp) (u : Value) (v : V) (x : PyData) (L : Ls) (Q : VK) (R : PyData → Prop), Room k A → Env0 P w K mg base A outer s1 H1 → Later s H s1 H1 → Same kf (hid L H1) → LkOk LK L H1 → RelV v u → Dp K (hid L H1) v x → F x R →
    (∀ r w' L' H', R r → Step L H1 L' H' → LkOk LK L' H' → Dp K (hid L' H') w' r → Q w' H') → codeAny (model P w) A (.call (.ref f) ⟨[u], []⟩) (CR CXF outer P w H1 s1 Q (fun _ _ _ => False)) s1
/-! ### a parameter that holds a function, called -/
section
variable {X : Cx} {LK : Lk} {W : WX} {fl : Fl} {e : Expr} {ta : TDe} {p1 p2 : Pos}
@[simp] def eCallP (i : Nat) (kf : Hp) (f : Addr) (F : FnD) (ta : TDe) : TDe := fun δ R RX => svAt δ i fun s => s = .fn kf f ∧ ta δ (fun sv => wD sv fun d => F d fun r => R (.d r)) RX
theorem dx_callP {k : Nat} {kf : Hp} {f : Addr} {F : FnD} (C : CapR X.prog X.w X.K X.mg X.base LK k X.s_0 X.H_0 kf f F) (hr : Room k X.A) (i : Nat) {x : Str} (he : DX X LK W fl e ta) (hex : X.ex = [] := by rfl) (hN : X.N[i]? = some x := by rfl) (hv : Vis X.env.scope x := by first | exact Or.inl rfl | exact Or.inr (Or.inl rfl) | exact Or.inr (Or.inr rfl))
    (hd : (x == ("__debug__" : Str)) = false := by decide) (hcd : (x == ("__classdict__" : Str)) = false := by decide) (hs : starEach [e] X.env = (false, eval e X.env) :: starEach [] X.env := by rfl) (hpl : (backTo p2 (starEach [] X.env)).any (·.1) = false := by rfl) :
    DX X LK W fb (.Call (.Name x p1) [e] [] p2) (eCallP i kf f F ta) := by
  refine ⟨fun pins s σ H Q I h => ?_⟩
  obtain ⟨G, L, δ, R, RX, rel, r, q, qx⟩ := h
  obtain ⟨s0, h0, rfl, r⟩ := svAt_out r
  obtain ⟨v0, hσ, rfl, same⟩ := rel.sl i _ h0
  refine wpAny_Call_Name_kw (thn ((pe_var (pos := p1) hN hv hd hcd).run pins s σ H (fun v H1 => v = .ref f ∧ H1 = H) I ⟨.ref f, hσ, rfl, rfl⟩) fun u s1 ⟨v, H1, I1, r1, q1⟩ => ?_)
  obtain ⟨ev, eH⟩ := q1
  subst ev
  rw [eH] at I1
  obtain rfl : u = Value.ref f := r1
  have sH : Same kf H := same.trans ((fz_le _ _ _ _).trans (hid_le _ _))
  refine PySem.W.callWith_F (first := []) (C.fn _ _ I1.hok sH) (thn ((pa_cons (X := X) he pa_nil hs).run p2 pins s1 σ H (fun vs H2 => ∃ sv v L2 G, vs = [v] ∧ Step L H L2 H2 ∧ Rel X.K LK G L2 δ σ H2 ∧ SvOk X.K (hid L2 H2) L2 v sv ∧ Same (fz L δ σ H) (hid L2 H2) ∧ (wD sv fun d => F d fun r => R (.d r))) I1 ?_) fun us s2 ⟨vs, H2, I2, rv, sv, v, L2', G', evs, st, rel2, ok, sm, hw⟩ => ?_) hs hpl
  · exact ⟨G, L, δ, _, _, rel, r, fun sv v L' H' hw st rel' res => ⟨sv, v, L', G, rfl, st, rel', res.b (fz_le _ _ _ _), (fz_step st).trans (fz_le _ _ _ _), hw⟩, fun x c d L' H' hx st lk ex => qx x c d L' H' hx st lk ex⟩
  · subst evs
    refine ⟨C.fn _ _ I2.hok (same.trans (sm.trans (hid_le _ _))), ?_⟩
    cases rv with
    | @cons _ u' _ _ ru rr =>
      cases rr
      obtain ⟨x, ex, hF⟩ := wD_out hw
      show wpAny _ _ (call (.ref f) [u']) _ _ _
      refine wpAny_call (codeAny_mono (C.run X.A X.stack s2 H2 u' v x L2' Q (fun r => R (.d r)) hr I2.env0 (later_of I2 hex) (same.trans sm) rel2.lk ru (asD_ok ex ok) hF fun r w' L' H' hR st' lk' dr => ?_) fun r s' hq => ?_)
      · exact q (.d r) w' L' H' hR (st.trans st') (rel.step (st.trans st') lk') ⟨dr, fun _ z => nomatch z⟩
      · cases r with
        | error e => exact (show False from hq).elim
        | ok fl =>
          cases fl with
          | ret u => exact I2.after hq
          | next => exact False.elim hq
          | brk => exact False.elim hq
          | cont => exact False.elim hq
end
/-! ### a def that takes a function -/
structure FnFOk (P : Program) (w : World) (K : PySem.W.Frag) (mg : Str → Option Value) (base : Heap) (LK : Lk) (k kc : Nat) (g : Addr) (fd : FuncData) (ps : List Str) (j : Nat) (CF : FnD → Ctr) : Prop where
  run : ∀ (A : Around) (outer : List Env) (s : Shared) (H : Hp) (args : Args) (us : List Value) (vs : List V) (Q : VK) (E : XK) (L : Ls) (svs : List SV) (R : SV → Prop) (RX : Exn → Prop) (kf : Hp) (f : Addr) (F : FnD), Room k A → Env0 P w K mg base A outer s H → BindsTo s fd args (ps.zip us) → Vals vs us → vs.length = ps.length → LkOk LK L H →
    Paired (fun v sv => SvOk K (hid L H) L v sv ∧ isData sv = true) vs svs → svs[j]? = some (.fn kf f) → CapR P w K mg base LK kc s H kf f F → CF F svs R RX →
    (∀ sv v L' H', R sv → Step L H L' H' → LkOk LK L' H' → SvOk K (nw (gd1 L H) (hid L' H')) L' v sv → Q v H') →
    (∀ x c d L' H', RX x → Step L H L' H' → LkOk LK L' H' → ExOk K (nw (gd1 L H) (hid L' H')) x c d → E c d H') → codeAny (model P w) A (.call (.ref g) args) (CR (L2.CX P w) outer P w H s Q E) s
section
variable {P : Program} {w : World} {K : PySem.W.Frag} {mg : Str → Option Value} {base : Heap} {LK : Lk}
theorem fnF_ok {x qual : Str} {params : Arguments} {body : List Stmt} {scope : Scope} {dvs : List V} {kws : List (Str × V)} {g : Addr} {fd : FuncData} {N ps : List Str} {k kc j : Nat} {CF : FnD → Ctr} {ts : Hp → Addr → FnD → TDs} (Fd : FunD K x qual params body scope dvs kws g fd) (S : FnScope N ps scope)
    (hb : ∀ (cdv : Value) (A : Around) (outer : List Env) (s : Shared) (H : Hp) (E : XK) (kf : Hp) (f : Addr) (F : FnD), Room k (A.deeper (envOfC qual scope s.heap.objs.size g cdv)) → CapR P w K mg base LK kc s H kf f F → Ds (cx P w K mg base N qual scope g cdv A outer s H E) LK (WD E) body (ts kf f F))
    (hc : ∀ kf f F args R RX, args.length = ps.length → args[j]? = some (.fn kf f) → CF F args R RX → ts kf f F (startD N args) { nx := fun _ => R (.d .none), rt := fun _ => R, xc := fun _ => RX }) : FnFOk P w K mg base LK (k + 1) kc g fd ps j CF := by
  obtain ⟨oc, od, dV, kV, doc, pm, an, cdv, ct, osl, rfl, lk, hcd, _, _⟩ := Fd.ex
  refine ⟨fun A outer s H args us vs Q E L svs R RX kf f F hr e0 hbd rv hl lkk pa hj cap hC q qx => ?_⟩
  refine run_ofS (CX := L2.CX P w) (ps := ps) (N := N) lk hcd S hr e0 hbd rv hl fun hr' => ⟨_, hb cdv A outer s H E kf f F hr' cap, ?_⟩
  refine ⟨gd1 L H, L, startD N svs, _, rel_start lkk pa, hc kf f F svs R RX ((paired_len pa).symm.trans hl) hj hC, ⟨fun δ' L' σ' H' h l rel => ?_, fun _ _ _ _ h => h.elim, fun _ _ _ _ h => h.elim, fun sv v δ' L' σ' H' gk h l rel ok => ?_, fun x c d δ' L' σ' H' h l rel ex => ?_⟩⟩
  · exact q _ _ L' H' h ⟨rel.gF.trans (fz_le _ _ _ _), l⟩ rel.lk Dp.non
  · exact q _ _ L' H' h ⟨rel.gF.trans (fz_le _ _ _ _), l⟩ rel.lk ok
  · exact qx x c d L' H' h ⟨rel.gF.trans (fz_le _ _ _ _), l⟩ rel.lk ex
/-- a def of the text that takes a function at place j, by name -/
def HasF (P : Program) (w : World) (K : PySem.W.Frag) (mg : Str → Option Value) (base : Heap) (LK : Lk) (x : Str) (k kc j : Nat) (ps : List Str) (CF : FnD → Ctr) : Prop :=
  ∃ fd : FuncData, FnFOk P w K mg base LK k kc (He.ga K x) fd ps j CF ∧ Binds K fd ps [] ∧ mg x = some (.ref (He.ga K x)) ∧ PySem.W.keepIn K (.ref (He.ga K x)) = true
end
/-! ### what a made function promises -/
/-- the object at f is the lambda with the words of F -/
def FnOL (f : Addr) (F : NF) (e : Expr) : HO := .ext fun h => ∃ (pm ctv : Value), h.get? f = some (PySem.W.kla_obj F.name F.qual F.params e F.scope F.cl pm F.c ctv)
inductive FK where
  | ex (e : Expr) | st
def FnOf (f : Addr) (F : NF) : FK → HO
  | .ex e => FnOL f F e
  | .st => FnO f F
/-- kf tells the function -/
structure IsFn (kf : Hp) (f : Addr) (F : NF) (b : FK) : Prop where
  fn : kf f = some (FnOf f F b)
  code : kf F.c = some (CodeO F.c F.qual)
section
variable {P : Program} {w : World} {K : PySem.W.Frag} {mg : Str → Option Value} {base : Heap} {LK : Lk} {N ps fr : List Str} {F : NF} {f : Addr} {s : Shared} {H kf : Hp}
theorem start_F {N : List Str} {v : V} {wv : List V} : startF N [v] (wv.map some) = L2.start N (v :: wv) := by
  unfold startF L2.start
  simp only [List.map_cons, List.map_nil, List.length_map, List.length_cons, List.length_nil, List.singleton_append, List.cons_append, List.nil_append]
  congr 3
  omega
theorem capE {k : Nat} {p : Str} {e : Expr} {wv : List V} {caps : List SV} {tb : TDe} (is : IsFn kf f F (.ex e)) (S : NScope N [p] fr F.scope) (hbind : ∀ (pm ctv u : Value), bindArgs (PySem.W.kla_fn F.name F.qual F.params e F.scope F.cl pm (.ref F.c) ctv) ⟨[u], []⟩ = pure [(p, u)])
    (C : CellsAt F.cl fr (wv.map some) s.heap H) (pa : ∀ L, Paired (fun v sv => SvOk K kf L v sv ∧ isData sv = true) wv caps)
    (hb : ∀ (A : Around) (outer : List Env) (s : Shared) (H : Hp) (E : XK), Room k (A.deeper (envF F f s.heap.objs.size)) → DX (ncx CXF P w K mg base N F f A outer s H E) LK (fun _ _ _ _ => False) fb e tb) :
    CapR P w K mg base LK (k + 1) s H kf f (fun x R => tb (startD N (.d x :: caps)) (fun sv => wD sv R) (fun _ => False)) := by
  have there : ∀ {H1 : Hp} {h : Heap}, HOk P w H1 h → Same kf H1 → ∃ (pm ctv : Value), h.get? f = some (PySem.W.kla_obj F.name F.qual F.params e F.scope F.cl pm F.c ctv) := fun {H1 h} hok sm => by
    obtain ⟨z, _, _⟩ := hok f _ (sm _ _ is.fn)
    exact z
  refine ⟨fun H1 h hok sm => ?_, fun A outer s1 H1 u v x L Q R hr e0 lt sm lkk rv dx hF q => ?_⟩
  · obtain ⟨pm, ctv, e1⟩ := there hok sm
    exact ⟨_, _, _, _, e1⟩
  · have smH : Same kf H1 := sm.trans (hid_le _ _)
    obtain ⟨pm, ctv, ho⟩ := there e0.hok smH
    have lim : s1.heap.NoLimit := e0.mod.nolimit.keeps fun b o e => (e0.bs b o e).1
    have C1 := cells_later C lt
    refine PySem.W.kla_callFunE hr.depth ho rfl S.co S.gen rfl (codeO_at e0.hok (smH _ _ is.code)) ?_
    rw [hbind]
    refine wpAny_pure (wpAny_newFunctionEnv S.nocell (fun y hy => by
      have : y = (p, u) := by simpa using hy
      rw [this]; exact S.par p (by simp)) (fun h₁ hns hsb => ⟨lim.fresh _ hsb, ?_⟩) S.kind)
    show codeAny _ _ (.expr e (envF F f s1.heap.objs.size)) _ _
    have kp : ∀ b o, s1.heap.get? b = some o → h₁.get? b = some o := fun b o e => hsb.extBut b o (Nat.ne_of_lt (Heap.lt_size e)) (Heap.get?_push_of_some _ e)
    have J : Inv (ncx CXF P w K mg base N F f A outer s1 H1 (fun _ _ _ => False)) [] (startF N [v] (wv.map some)) H1 { s1 with heap := h₁, toks := s1.toks + ([(p, u)] : List (Str × Value)).length } := inv_startN (ps := [p]) (us := [u]) S hr.hd e0 rfl (.cons rv .nil) C1 hns kp
    rw [start_F] at J
    have rs : Rel K LK (gd1 L H1) L (startD N (.d x :: caps)) (L2.start N (v :: wv)) H1 := rel_start lkk (.cons ⟨dx, rfl⟩ (paired_imp (fun _ _ z => ⟨svOk_mono sm (fun _ z => z) z.1, z.2⟩) (pa L)))
    refine PySem.W.kla_codeExpr (wpAny_mono ((hb A outer s1 H1 (fun _ _ _ => False) (hr.deeper _)).run [] _ _ H1 Q J ⟨_, L, _, _, _, rs, hF, fun sv y L' H' hw st rel' res => ?_, fun _ _ _ _ _ h => h.elim⟩) (fun u' s' hq => ?_) fun e s' hq => hq)
    · obtain ⟨d, ed, hR⟩ := wD_out hw
      exact q d y L' H' hR st rel'.lk (asD_ok ed (res.b (fz_le _ _ _ _)))
    · obtain ⟨w', H', J', rv', q'⟩ := hq
      exact ⟨w', H', J'.os, J'.bare, J'.base, J'.hok, rv', q'⟩
theorem capS {k : Nat} {p : Str} {wv : List V} {caps : List SV} {ts : TDs} (is : IsFn kf f F .st) (S : NScope N [p] fr F.scope) (hbind : ∀ (doc pm ctv u : Value), bindArgs (F.fd doc pm ctv) ⟨[u], []⟩ = pure [(p, u)])
    (C : CellsAt F.cl fr (wv.map some) s.heap H) (pa : ∀ L, Paired (fun v sv => SvOk K kf L v sv ∧ isData sv = true) wv caps)
    (hb : ∀ (A : Around) (outer : List Env) (s : Shared) (H : Hp) (E : XK), Room k (A.deeper (envF F f s.heap.objs.size)) → Ds (ncx CXF P w K mg base N F f A outer s H E) LK (fun _ _ _ _ => False) F.body ts) :
    CapR P w K mg base LK (k + 1) s H kf f (fun x R => ts (startD N (.d x :: caps)) { nx := fun _ => R .none, rt := fun _ sv => wD sv R, xc := fun _ _ => False }) := by
  have n : NOk P w K mg base CXF (k + 1) f F [p] fr (fun ws vs H1 Q E => ∃ v x L R, vs = [v] ∧ ws = wv.map some ∧ Same kf (hid L H1) ∧ LkOk LK L H1 ∧ Dp K (hid L H1) v x ∧ ts (startD N (.d x :: caps)) { nx := fun _ => R .none, rt := fun _ sv => wD sv R, xc := fun _ _ => False } ∧
      (∀ r w' L' H', R r → Step L H1 L' H' → LkOk LK L' H' → Dp K (hid L' H') w' r → Q w' H')) := by
    refine nok_of S (fun doc pm ctv us hl => ?_) (fun ws vs H1 Q E ⟨v, _, _, _, e, _⟩ => by rw [e]; rfl) fun A outer s1 H1 vs ws Q E hr hf hc hlw hsp => ?_
    · obtain ⟨u, rfl⟩ : ∃ u, us = [u] := by
        rcases us with _ | ⟨u, _ | ⟨_, _⟩⟩ <;> simp at hl
        exact ⟨u, rfl⟩
      exact hbind doc pm ctv u
    · obtain ⟨v, x, L, R, rfl, rfl, sm, lkk, dx, hF, q⟩ := hsp
      refine ⟨_, hb A outer s1 H1 E hr, ?_⟩
      rw [start_F]
      have rs : Rel K LK (gd1 L H1) L (startD N (.d x :: caps)) (L2.start N (v :: wv)) H1 := rel_start lkk (.cons ⟨dx, rfl⟩ (paired_imp (fun _ _ z => ⟨svOk_mono sm (fun _ z => z) z.1, z.2⟩) (pa L)))
      refine ⟨_, L, _, _, rs, hF, ⟨fun δ' L' σ' H' h l rel => ?_, fun _ _ _ _ h => h.elim, fun _ _ _ _ h => h.elim, fun sv v δ' L' σ' H' gk h l rel ok => ?_, fun x c d δ' L' σ' H' h l rel ex => h.elim⟩⟩
      · exact q _ _ L' H' h ⟨rel.gF.trans (fz_le _ _ _ _), l⟩ rel.lk Dp.non
      · obtain ⟨d, ed, hR⟩ := wD_out h
        exact q d _ L' H' hR ⟨rel.gF.trans (fz_le _ _ _ _), l⟩ rel.lk (dp_mono (nw_le _ _) _ _ (asD_ok ed ok))
  refine ⟨fun H1 h hok sm => ?_, fun A outer s1 H1 u v x L Q R hr e0 lt sm lkk rv dx hF q => ?_⟩
  · obtain ⟨od, sl, doc, pm, ctv, ho⟩ := fnO_at hok (sm _ _ is.fn)
    exact ⟨_, od, _, sl, ho⟩
  · have smH : Same kf H1 := sm.trans (hid_le _ _)
    exact n.run A outer s1 H1 [u] [v] _ Q (fun _ _ _ => False) hr e0 (smH _ _ is.fn) (smH _ _ is.code) (cells_later C lt) (.cons rv .nil) ⟨v, x, L, R, rfl, rfl, sm, lkk, dx, hF, q⟩
end
end DL

namespace DL
open PySem PySem.Spec PyProof.Rows L2 LamX NdefX

/-! ### worlds with tables of code objects -/
theorem tabs_mono {T : List (Addr × Str)} {H H' : Hp} (e : ∀ b o, H b = some o → mutB o = false → H' b = some o) (t : Tabs T H) : Tabs T H' := fun p hp => by
  obtain ⟨ps, h1, h2, h3⟩ := t p hp
  refine ⟨ps, e _ _ h1 rfl, h2, fun pos cv hc => ?_⟩
  obtain ⟨c, e1, e2⟩ := h3 pos cv hc
  exact ⟨c, e1, e _ _ e2 rfl⟩
theorem tabs_chg {T : List (Addr × Str)} {H : Hp} {D : Addr} {φ : Heap → Prop} {o' : HO} (t : Tabs T H) (hD : H D = some (.ext φ)) (sat : ∃ h o es ep t, φ h ∧ h.get? D = some o ∧ o.data = Data.set es ep t) : Tabs T (upd H D o') := fun p hp => by
  obtain ⟨ps, h1, h2, h3⟩ := t p hp
  have n1 : p.1 ≠ D := fun z => by rw [z, hD] at h1; cases h1
  refine ⟨ps, by rw [upd_ne n1]; exact h1, h2, fun pos cv hc => ?_⟩
  obtain ⟨c, e1, e2⟩ := h3 pos cv hc
  have n2 : c ≠ D := fun z => by
    rw [z, hD] at e2
    obtain ⟨h, o, es, ep, tt, g1, g2, g3⟩ := sat
    have e3 : φ = _ := HO.ext.inj (Option.some.inj e2)
    rw [e3] at g1
    obtain ⟨oc, vs, tk, q1, q2, _⟩ := g1
    rw [g2] at q1
    cases q1
    rw [g3] at q2
    cases q2
  exact ⟨c, e1, by rw [upd_ne n2]; exact e2⟩
def LkT (ok : HO → Prop) (T : List (Addr × Str)) : Lk := ⟨ok, Tabs T, fun _ _ e h => tabs_mono e h, fun _ _ _ _ h1 h2 h3 => tabs_chg h1 h2 h3⟩
theorem step_ext {ok : HO → Prop} {T : List (Addr × Str)} {L : Ls} {H H1 : Hp} (hok : ∀ o, ok o → tblB o = false) (lk : LkOk (LkT ok T) L H) (e : ExtN H H1) (t : Tabs T H1) : Step L H L H1 ∧ LkOk (LkT ok T) L H1 := by
  have e' : ∀ b o, H b = some o → tblB o = false → H1 b = some o := fun b o h n => e b o h fun ps z => by rw [z] at n; cases n
  refine ⟨⟨fun b o h => hid_of (hid_nl h) (e' b o (hid_le _ _ _ _ h) (hid_nt h)) (hid_nt h), fun _ z => z⟩, fun a la => ?_, t⟩
  obtain ⟨o, h1, h2⟩ := lk.1 a la
  exact ⟨o, e' a o h1 (hok o h2), h2⟩
/-- what is known of a function just made, alone -/
def kf0 (H : Hp) (f c : Addr) : Hp := fun b => if b = f ∨ b = c then H b else none
theorem kf0_le (H : Hp) (f c : Addr) : Same (kf0 H f c) H := fun b o h => by
  unfold kf0 at h
  split at h
  · exact h
  · cases h
theorem kf0_is {H : Hp} {f : Addr} {F : NF} {b : FK} (h1 : H f = some (FnOf f F b)) (h2 : H F.c = some (CodeO F.c F.qual)) : IsFn (kf0 H f F.c) f F b :=
  ⟨by unfold kf0; rw [if_pos (.inl rfl)]; exact h1, by unfold kf0; rw [if_pos (.inr rfl)]; exact h2⟩
theorem ext_of {f : Addr} {F : NF} {b : FK} : ∃ p, FnOf f F b = .ext p := by
  cases b
  · exact ⟨_, rfl⟩
  · exact ⟨_, rfl⟩
/-- as a value it needs nothing but what is known of it -/
theorem kf0_ok {ok : HO → Prop} {T : List (Addr × Str)} {K : PySem.W.Frag} {G : Gd} {L : Ls} {δ : DS} {σ : L2.St} {H : Hp} {f : Addr} {F : NF} {b : FK} (hok : ∀ p, ¬ ok (.ext p)) (rel : Rel K (LkT ok T) G L δ σ H) (h1 : H f = some (FnOf f F b)) (h2 : H F.c = some (CodeO F.c F.qual)) : Same (kf0 H f F.c) (nw G (fz L δ σ H)) := fun a o h => by
  have one : ∀ p, H a = some (.ext p) → (nw G (fz L δ σ H)) a = some (.ext p) := fun p e => by
    have nl : L a = false := by
      cases z : L a with
      | false => rfl
      | true =>
        obtain ⟨o', e1, e2⟩ := rel.lk.1 a z
        rw [e] at e1; cases e1
        exact absurd e2 (hok p)
    exact nw_imm (rel.immF rfl (hid_of nl e rfl)) rfl
  have hH := kf0_le _ _ _ _ _ h
  unfold kf0 at h
  split at h
  · rename_i hb
    rcases hb with hb | hb
    · subst hb
      obtain ⟨p, e⟩ := ext_of (f := a) (F := F) (b := b)
      rw [e] at h1
      rw [hH] at h1; cases h1
      exact one p hH
    · subst hb
      rw [hH] at h2; cases h2
      exact one _ hH
  · cases h
/-! ### a lambda, a nested def -/
section
variable {X : Cx} {okp : HO → Prop} {T : List (Addr × Str)} {W : WX} {c Pt : Addr} {params : Arguments} {body : Expr} {scope : Scope} {pos : Pos} {name : Str}
@[simp] def eLam (M : Hp → Addr → Prop) : TDe := fun _ R _ => ∀ kf f, M kf f → R (.fn kf f)
def lamNF (X : Cx) (params : Arguments) (scope : Scope) (c' : Addr) : NF := ⟨"<lambda>", X.env.qual ++ "<lambda>", params, [], scope, cloFrom X.env.cells scope.names [], c'⟩
def lamM (X : Cx) (params : Arguments) (body : Expr) (scope : Scope) : Hp → Addr → Prop := fun kf f => ∃ c', IsFn kf f (lamNF X params scope c') (.ex body)
/-- the object of a lambda just made is known from now on -/
theorem inv_lam {pins : List (Addr × Obj)} {σ : L2.St} {H : Hp} {s : Shared} {F : NF} {e : Expr} {pm ctv : Value} {t' : Nat} (I : Inv X pins σ H s) : Inv X pins σ (upd H s.heap.objs.size (FnOL s.heap.objs.size F e)) { s with heap := s.heap.push (PySem.W.kla_obj F.name F.qual F.params e F.scope F.cl pm F.c ctv), toks := t' } :=
  have at_ : (s.heap.push (PySem.W.kla_obj F.name F.qual F.params e F.scope F.cl pm F.c ctv)).get? s.heap.objs.size = some (PySem.W.kla_obj F.name F.qual F.params e F.scope F.cl pm F.c ctv) := Heap.get?_push_size _ rfl
  I.laid (fun b u q => Heap.get?_push_of_some _ q) (Nat.le_refl _) ⟨⟨pm, ctv, at_⟩, ⟨_, at_⟩, fun h1 h2 ⟨p, t, z⟩ st => ⟨p, t, st _ z⟩⟩
theorem lam_made {pins : List (Addr × Obj)} {σ : L2.St} {H : Hp} {s : Shared} {E : Value → Shared → Prop} {Q : Value → Shared → Prop} (I : Inv X pins σ H s) (TB : TabB X.base X.mg c Pt) (hcode : X.env.code = .ref c) (hm : (Pt, X.env.qual ++ "<lambda>") ∈ T) (hu : ∀ p ∈ T, p.1 = Pt → p.2 = X.env.qual ++ "<lambda>") (hT : Tabs T H)
    (hdef : defaultsOf params X.env = ([], [])) (hfree : ∀ y ∈ scope.names, y.2 = .free → ∃ c, X.env.cells.lookup y.1 = some c)
    (h : ∀ (f c' : Addr) (H1 : Hp) (s' : Shared), Inv X pins σ H1 s' → ExtN H H1 → Tabs T H1 → H1 f = some (FnOL f (lamNF X params scope c') body) → H1 c' = some (CodeO c' (X.env.qual ++ "<lambda>")) → Q (.ref f) s') :
    wpAny (model X.prog X.w) X.A (eval (.Lambda params body scope pos) X.env) Q E s := by
  obtain ⟨ps, hP, ht, ha⟩ := hT _ hm
  have bP : s.heap.BuiltinsAt X.mg Pt := TB.bm.keeps I.bk
  have oP : s.heap.get? Pt = some { cls := .none, data := .fields ps } := I.hok Pt _ hP
  refine PySem.W.kla_eval hdef ?_
  cases hc : codeAmong pos ps.toList with
  | some cv =>
    obtain ⟨c', rfl, hco⟩ := ha pos cv hc
    refine PySem.W.kla_makeFunctionHit (mg := X.mg) (c := c) (P := Pt) (ps := ps) (closure_ok hfree) I.ok.glob (I.mod.glob.keeps I.bk) hcode (TB.code.keeps I.bk) oP ht hc bP fun ctv h' tk hx hsz => ?_
    have I1 : Inv X pins σ H { s with heap := h', toks := tk } := I.kept fun b o e => hx b o e
    have nF := I1.hok.fresh (Nat.le_refl _)
    refine h h'.objs.size c' _ _ (inv_lam (F := lamNF X params scope c') (e := body) (pm := (X.mg "__name__").getD .none) (ctv := ctv) (t' := tk) I1) (fun b o e _ => ?_) (hT.ext fun b o e => ?_) upd_same ?_
    · exact (upd_ne (ne_of_none e nF)).trans e
    · exact (upd_ne (ne_of_none e nF)).trans e
    · exact (upd_ne (ne_of_none hco nF)).trans hco
  | none =>
    refine PySem.W.kla_makeFunction (mg := X.mg) (c := c) (P := Pt) (ps := ps) (closure_ok hfree) I.ok.glob (I.mod.glob.keeps I.bk) hcode (TB.code.keeps I.bk) oP ht hc TB.gP bP fun c' ctv h' tk hx hge hlt hrec htb => ?_
    obtain ⟨c2, oc, vs, t, e2, hoc, hd, hv⟩ := hrec
    cases e2
    have nC : H c' = none := I.hok.fresh hge
    have I1 := inv_table (q := X.env.qual ++ "<lambda>") (t' := tk) (more := #[rawInt pos.line, rawInt pos.col, .ref c']) (h' := h') I hP (fun b o hb e => hx b o hb e) htb hge ⟨oc, vs, t, hoc, hd, hv⟩
    generalize eH : upd (upd H Pt (.tbl (ps ++ #[rawInt pos.line, rawInt pos.col, .ref c']))) c' (CodeO c' (X.env.qual ++ "<lambda>")) = H1 at I1
    have x1 : ExtN H H1 := fun b o e n => by
      rw [← eH, upd_ne (ne_of_none e nC), upd_ne fun z => n ps (Option.some.inj (e.symm.trans (by rw [z]; exact hP)))]
      exact e
    have cC : H1 c' = some (CodeO c' (X.env.qual ++ "<lambda>")) := by rw [← eH]; exact upd_same
    have eL : (ps ++ #[rawInt pos.line, rawInt pos.col, .ref c']).toList = ps.toList ++ [rawInt pos.line, rawInt pos.col, .ref c'] := by simp
    have T1 : Tabs T H1 := fun p hp => by
      by_cases hb : p.1 = Pt
      · rw [hu p hp hb, hb]
        refine ⟨_, by rw [← eH, upd_ne (ne_of_none hP nC), upd_same], by rw [eL]; exact PySem.TriplesOk_snoc _ _ _ _ ht, fun p' cv hcv => ?_⟩
        rw [eL] at hcv
        rcases among_app _ ht hcv with z | z
        · obtain ⟨c0, e1, e2⟩ := ha p' cv z
          exact ⟨c0, e1, x1 _ _ e2 codeO_ne⟩
        · exact ⟨c', z, cC⟩
      · obtain ⟨ps', a1, a2, a3⟩ := hT p hp
        refine ⟨ps', by rw [← eH, upd_ne (ne_of_none a1 nC), upd_ne hb]; exact a1, a2, fun p' cv hcv => ?_⟩
        obtain ⟨c0, e1, e2⟩ := a3 p' cv hcv
        exact ⟨c0, e1, x1 _ _ e2 codeO_ne⟩
    have nF := I1.hok.fresh (Nat.le_refl _)
    refine h h'.objs.size c' _ _ (inv_lam (F := lamNF X params scope c') (e := body) (pm := (X.mg "__name__").getD .none) (ctv := ctv) (t' := tk) I1) (fun b o e n => ?_) (T1.ext fun b o e => ?_) upd_same ?_
    · have e1 := x1 b o e n
      exact (upd_ne (ne_of_none e1 nF)).trans e1
    · exact (upd_ne (ne_of_none e nF)).trans e
    · exact (upd_ne (Nat.ne_of_lt hlt)).trans cC
theorem dx_lam (hok : ∀ o, okp o → tblB o = false) (hok2 : ∀ p, ¬ okp (.ext p)) (TB : TabB X.base X.mg c Pt) (hcode : X.env.code = .ref c) (hm : (Pt, X.env.qual ++ "<lambda>") ∈ T) (hu : ∀ p ∈ T, p.1 = Pt → p.2 = X.env.qual ++ "<lambda>") (hdef : defaultsOf params X.env = ([], []))
    (hfree : ∀ y ∈ scope.names, y.2 = .free → X.env.scope.names.lookup y.1 = some .cell ∨ X.env.scope.names.lookup y.1 = some .free) : DX X (LkT okp T) W ff (.Lambda params body scope pos) (eLam (lamM X params body scope)) := by
  refine ⟨fun pins s σ H Q I h => ?_⟩
  obtain ⟨G, L, δ, R, RX, rel, r, q, qx⟩ := h
  refine lam_made I TB hcode hm hu rel.lk.2 hdef (fun y hy e => (hfree y hy e).elim (fun z => I.ok.has _ (.inl z)) fun z => I.ok.has _ (.inr z)) fun f c' H1 s' I1 eN T1 hf hco => ?_
  obtain ⟨st, lk⟩ := step_ext hok rel.lk eN T1
  have rel1 := rel.step st lk
  exact ⟨.ref f, H1, I1, rfl, q (.fn (kf0 H1 f c') f) (.ref f) L H1 (r _ f ⟨c', kf0_is (F := lamNF X params scope c') (b := .ex body) hf hco⟩) st rel1 ⟨⟨rfl, kf0_ok (F := lamNF X params scope c') (b := .ex body) hok2 rel1 hf hco⟩, fun _ z => nomatch z⟩⟩
/-! a nested def: the statements behind it know its mark M -/
variable {nbody rest : List Stmt}
@[simp] def sDef (i : Nat) (t : (Hp → Addr → Prop) → TDs) : TDs := fun δ E => ∀ M : Hp → Addr → Prop, ∀ kf f, M kf f → t M (δ.set i (some (.fn kf f))) E
def defNF (X : Cx) (name : Str) (params : Arguments) (nbody : List Stmt) (scope : Scope) (c' : Addr) : NF := ⟨name, X.env.qual ++ name, params, nbody, scope, cloFrom X.env.cells scope.names [], c'⟩
def defM (X : Cx) (name : Str) (params : Arguments) (nbody : List Stmt) (scope : Scope) : Hp → Addr → Prop := fun kf f => ∃ c', IsFn kf f (defNF X name params nbody scope c') .st
theorem ds_def {t : (Hp → Addr → Prop) → TDs} (i : Nat) (hok : ∀ o, okp o → tblB o = false) (hok2 : ∀ p, ¬ okp (.ext p)) (TB : TabB X.base X.mg c Pt) (hcode : X.env.code = .ref c) (hm : (Pt, X.env.qual ++ name) ∈ T) (hu : ∀ p ∈ T, p.1 = Pt → p.2 = X.env.qual ++ name)
    (hfree : ∀ y ∈ scope.names, y.2 = .free → X.env.scope.names.lookup y.1 = some .cell ∨ X.env.scope.names.lookup y.1 = some .free) (hd0 : params.defaults = []) (hk0 : params.kw_defaults = []) (ha : annTrees params none X.env = []) (hN : X.N.Nodup) (hr : Ds X (LkT okp T) W rest (t (defM X name params nbody scope)))
    (hi : X.N[i]? = some name := by rfl) (hx : Loc X.env.scope name := by first | exact Or.inl rfl | exact Or.inr rfl) (hf : X.fn name = true ∨ X.env.scope.names.lookup name = some .local := by first | exact .inl rfl | exact .inr rfl) :
    Ds X (LkT okp T) W (.FunctionDef name params nbody [] none [] scope none name pos :: rest) (sDef i t) :=
  pss_imp (pss_cons (ps_ndefM (T := T.map fun p => (p.1, fun _ _ => p.2)) (nm := fun _ _ => X.env.qual ++ name) (i := i) TB hcode (List.mem_map.mpr ⟨_, hm, rfl⟩) rfl (fun p hp e => by
      obtain ⟨p', h1, h2⟩ := List.mem_map.mp hp
      subst h2
      have := hu p' h1 e
      simp only [this]) hfree hd0 hk0 ha hN hi hx hf) hr) fun D σ H ⟨G, L, δ, E, rel, r, q⟩ => by
    refine ⟨fun p hp => by
      obtain ⟨p', h1, h2⟩ := List.mem_map.mp hp
      subst h2
      exact TabN.of (rel.lk.2 p' h1), fun f c' H1 eN nn T1 f0 f1 c1 => ?_⟩
    have T1' : Tabs T H1 := fun p hp => TabN.to (T1 _ (List.mem_map.mpr ⟨p, hp, rfl⟩))
    obtain ⟨st, lk⟩ := step_ext hok rel.lk eN T1'
    have rel1 := rel.step st lk
    have ok := kf0_ok (F := defNF X name params nbody scope c') (b := .st) hok2 rel1 f1 c1
    refine ⟨G, L, _, E, rel1.put (i := i) (v := .ref f) (sv := .fn (kf0 H1 f c') f) (Step.refl _ _) lk (fun z => nomatch z) ⟨rfl, ?_⟩, r _ _ f ⟨c', kf0_is (F := defNF X name params nbody scope c') (b := .st) f1 c1⟩, q⟩
    exact (ok.trans (nw_le _ _)).trans (fz_set rel1 rfl)
end
/-! ### handed to a def -/
def capOf : SV → Option SV
  | .d x => some (.d x)
  | .own xs => some (.d (.list xs))
  | .oK kvs => some (.rK kvs)
  | .oT kvs => some (.rT kvs)
  | .rK kvs => some (.rK kvs)
  | .rT kvs => some (.rT kvs)
  | .fn kf f => some (.fn kf f)
  | _ => none
@[simp] theorem capOf_d (x : PyData) : capOf (.d x) = some (.d x) := rfl
@[simp] theorem capOf_own (x : List PyData) : capOf (.own x) = some (.d (.list x)) := rfl
@[simp] theorem capOf_fn (kf : Hp) (f : Addr) : capOf (.fn kf f) = some (.fn kf f) := rfl
/-- the captured names' values -/
def capsD (δ : DS) : List Nat → (List SV → Prop) → Prop
  | [], R => R []
  | j :: js, R => svAt δ j fun s => match capOf s with
    | some c => capsD δ js fun cs => R (c :: cs)
    | none => False
@[simp] theorem capsD_nil (δ : DS) (R : List SV → Prop) : capsD δ [] R = R [] := rfl
@[simp] theorem capsD_cons (δ : DS) (j : Nat) (js : List Nat) (R : List SV → Prop) : capsD δ (j :: js) R = svAt δ j fun s => match capOf s with
    | some c => capsD δ js fun cs => R (c :: cs)
    | none => False := rfl
theorem capOf_ok {K : PySem.W.Frag} {M : Hp} {L : Ls} {v : V} {s c : SV} (e : capOf s = some c) (h : SvOk K M L v s) : ∀ L', SvOk K M L' v c ∧ isData c = true := fun L' => by
  cases s <;> simp [capOf] at e <;> subst e
  · exact ⟨h, rfl⟩
  · obtain ⟨a, vs, e, h1, h2⟩ := h
    subst e
    exact ⟨Dp.lst (SqL.of h1) h2, rfl⟩
  · exact ⟨h, rfl⟩
  · exact ⟨h, rfl⟩
  · exact ⟨h, rfl⟩
  · exact ⟨h, rfl⟩
  · exact ⟨h, rfl⟩
theorem capsD_ok {K : PySem.W.Frag} {LK : Lk} {G : Gd} {L : Ls} {δ : DS} {σ : L2.St} {H : Hp} (rel : Rel K LK G L δ σ H) : ∀ (js : List Nat) (R : List SV → Prop), capsD δ js R → ∃ wv caps, js.map (slotAt σ) = wv.map some ∧ (∀ L', Paired (fun v sv => SvOk K (hid L H) L' v sv ∧ isData sv = true) wv caps) ∧ R caps
  | [], R, h => ⟨[], [], rfl, fun _ => .nil, h⟩
  | j :: js, R, h => by
    obtain ⟨s, h1, h⟩ := svAt_out h
    obtain ⟨v, h2, h3⟩ := rel.sl j s h1
    split at h
    · rename_i c e
      obtain ⟨wv, caps, q1, q2, q3⟩ := capsD_ok rel js _ h
      refine ⟨v :: wv, c :: caps, ?_, fun L' => .cons (capOf_ok e (slot_b (fz_le _ _ _ _) h3) L') (q2 L'), q3⟩
      rw [List.map_cons, List.map_cons, q1, slotAt_of h2]
    · exact h.elim
/-- M marks a function that, over the frame's names js, keeps FF -/
def Maker (X : Cx) (LK : Lk) (kc : Nat) (M : Hp → Addr → Prop) (js : List Nat) (FF : List SV → FnD) : Prop := ∀ pins σ H s L kf f wv caps, Inv X pins σ H s → M kf f → Same kf (hid L H) → js.map (slotAt σ) = wv.map some → (∀ L', Paired (fun v sv => SvOk X.K (hid L H) L' v sv ∧ isData sv = true) wv caps) →
  CapR X.prog X.w X.K X.mg X.base LK kc s H (hid L H) f (FF caps)
def lamF (N : List Str) (tb : TDe) (caps : List SV) : FnD := fun x R => tb (startD N (.d x :: caps)) (fun sv => wD sv R) (fun _ => False)
def defF (N : List Str) (ts : TDs) (caps : List SV) : FnD := fun x R => ts (startD N (.d x :: caps)) { nx := fun _ => R .none, rt := fun _ sv => wD sv R, xc := fun _ _ => False }
section
variable {X : Cx} {LK : Lk} {W : WX} {params : Arguments} {body : Expr} {scope : Scope} {name p : Str} {N fr : List Str} {js : List Nat} {k : Nat} {tb : TDe} {nbody : List Stmt} {ts : TDs}
theorem maker_lam (S : NScope N [p] fr scope) (hnd : ndefB X.env.scope scope fr = true) (hjs : js.map (fun j => X.N[j]?) = fr.map some) (hbind : ∀ (q : Str) (cl : List (Str × Addr)) (pm cv ctv u : Value), bindArgs (PySem.W.kla_fn "<lambda>" q params body scope cl pm cv ctv) ⟨[u], []⟩ = pure [(p, u)])
    (hb : ∀ (q : Str) (cl : List (Str × Addr)) (c' f : Addr) (A : Around) (outer : List Env) (s : Shared) (H : Hp) (E : XK), Room k (A.deeper (envF ⟨"<lambda>", q, params, [], scope, cl, c'⟩ f s.heap.objs.size)) → DX (ncx CXF X.prog X.w X.K X.mg X.base N ⟨"<lambda>", q, params, [], scope, cl, c'⟩ f A outer s H E) LK (fun _ _ _ _ => False) fb body tb) :
    Maker X LK (k + 1) (lamM X params body scope) js (lamF N tb) := fun pins σ H s L kf f wv caps I ⟨c', is⟩ sm ew pa => by
  have is' : IsFn (hid L H) f (lamNF X params scope c') (.ex body) := ⟨sm _ _ is.fn, sm _ _ is.code⟩
  have C := cells_of I (Caps.made I.ok (ndef_free hnd) (ndef_fr hnd) hjs)
  rw [ew] at C
  exact capE is' S (fun pm ctv u => hbind _ _ _ _ _ _) C pa fun A outer s H E hr => hb _ _ c' f A outer s H E hr
theorem maker_def (S : NScope N [p] fr scope) (hnd : ndefB X.env.scope scope fr = true) (hjs : js.map (fun j => X.N[j]?) = fr.map some) (hbind : ∀ (F : NF) (doc pm ctv u : Value), F.params = params → F.scope = scope → F.body = nbody → bindArgs (F.fd doc pm ctv) ⟨[u], []⟩ = pure [(p, u)])
    (hb : ∀ (q : Str) (cl : List (Str × Addr)) (c' f : Addr) (A : Around) (outer : List Env) (s : Shared) (H : Hp) (E : XK), Room k (A.deeper (envF ⟨name, q, params, nbody, scope, cl, c'⟩ f s.heap.objs.size)) → Ds (ncx CXF X.prog X.w X.K X.mg X.base N ⟨name, q, params, nbody, scope, cl, c'⟩ f A outer s H E) LK (fun _ _ _ _ => False) nbody ts) :
    Maker X LK (k + 1) (defM X name params nbody scope) js (defF N ts) := fun pins σ H s L kf f wv caps I ⟨c', is⟩ sm ew pa => by
  have is' : IsFn (hid L H) f (defNF X name params nbody scope c') .st := ⟨sm _ _ is.fn, sm _ _ is.code⟩
  have C := cells_of I (Caps.made I.ok (ndef_free hnd) (ndef_fr hnd) hjs)
  rw [ew] at C
  exact capS is' S (fun doc pm ctv u => hbind _ _ _ _ _ rfl rfl rfl) C pa fun A outer s H E hr => hb _ _ c' f A outer s H E hr
variable {fl : Fl} {e : Expr} {es : List Expr} {tas : TDa} {pos p1 : Pos} {M : Hp → Addr → Prop} {FF : List SV → FnD} {CF : FnD → Ctr} {x : Str} {n j kc : Nat}
def fnToArg (j : Nat) (svs : List SV) : List SV := svs.map toArg
@[simp] def eCallF (n j : Nat) (js : List Nat) (FF : List SV → FnD) (CF : FnD → Ctr) (M : Hp → Addr → Prop) (tas : TDa) : TDe := fun δ R RX => tas δ (fun svs => svs.length = n ∧ (∃ kf f, svs[j]? = some (.fn kf f) ∧ M kf f) ∧ capsD δ js fun caps => ∀ kf f, CF (FF caps) ((svs.map toArg).set j (.fn kf f)) R RX) RX
/-- .. with a lambda made among the arguments -/
@[simp] def eCallL (n j : Nat) (js : List Nat) (FF : List SV → FnD) (CF : FnD → Ctr) (tas : (Hp → Addr → Prop) → TDa) : TDe := fun δ R RX => ∀ M : Hp → Addr → Prop, eCallF n j js FF CF M (tas M) δ R RX
theorem dx_callF {ps : List Str} (Fg : HasF X.prog X.w X.K X.mg X.base LK x k kc j ps CF) (mk : Maker X LK kc M js FF) (tk : Takes X W) (hr : Room k X.A) (hg : Gl X x) (ha : DA X LK W fb (e :: es) tas) (hn : ps.length = n := by rfl) (hdb : (x == ("__debug__" : Str)) = false := by decide) (he : starEach (e :: es) X.env = (false, eval e X.env) :: starEach es X.env := by rfl)
    (hpl : (backTo pos (starEach es X.env)).any (·.1) = false := by rfl) :
    DX X LK W ff (.Call (.Name x p1) (e :: es) [] pos) (eCallF n j js FF CF M tas) := by
  obtain ⟨fd, F, hb, hm, hk⟩ := Fg
  refine ⟨fun pins s σ H Q I h => ?_⟩
  obtain ⟨G, L, δ, R, RX, rel, r, q, qx⟩ := h
  refine wpAny_Call_Name_kw (ld_glob I hg hm ?_ hdb)
  refine PySem.W.callWith_K (h₀ := X.base) I.ok.mod.kin hk (thn (ha.run pos pins s σ H (fun vs H1 => ∃ svs L1, Step L H L1 H1 ∧ Rel X.K LK G L1 δ σ H1 ∧ ResA X.K G fb (hid L H) (fz L1 δ σ H1) (hid L1 H1) L1 vs svs ∧ svs.length = n ∧ (∃ kf f, svs[j]? = some (.fn kf f) ∧ M kf f) ∧ capsD δ js fun caps => ∀ kf f, CF (FF caps) ((svs.map toArg).set j (.fn kf f)) R RX) I ?_)
    fun us s1 ⟨vs, H1, I1, rv, svs, L1, st1, rel1, res1, hl, ⟨kf, f, hj, hM⟩, hc⟩ => ⟨I1.kIn, ?_⟩) he hpl
  · exact ⟨G, L, δ, _, _, rel, r, fun svs vs L1 H1 hw st1 rel1 res1 => ⟨svs, L1, st1, rel1, res1, hw⟩, fun x c d L' H' hx st lk ex => qx x c d L' H' hx st lk ex⟩
  · obtain ⟨wv, caps, ew, pa, hC⟩ := capsD_ok rel1 js _ hc
    have okj : ∃ v, vs[j]? = some v ∧ v = .ref f ∧ Same kf (hid L1 H1) := by
      obtain ⟨v, h1, h2⟩ := paired_get res1 hj
      have := h2.b (fz_le _ _ _ _)
      exact ⟨v, h1, this.1, this.2⟩
    obtain ⟨vj, hvj, evj, smj⟩ := okj
    have cap := mk pins σ H1 s1 L1 kf f wv caps I1 hM smj ew pa
    have hlv : vs.length = ps.length := by rw [hn]; exact (paired_len res1).trans hl
    have args : Paired (fun v sv => SvOk X.K (hid L1 H1) L1 v sv ∧ isData sv = true) vs (svs.map toArg) := paired_map (G := fun v sv => SvOk X.K (hid L1 H1) L1 v sv ∧ isData sv = true) (g := toArg) (fun v sv z => toArg_ok (z.b (fz_le _ _ _ _))) res1
    have args' : Paired (fun v sv => SvOk X.K (hid L1 H1) L1 v sv ∧ isData sv = true) vs ((svs.map toArg).set j (.fn (hid L1 H1) f)) := by
      have : ∀ {vs : List V} {ss : List SV} {j : Nat}, Paired (fun v sv => SvOk X.K (hid L1 H1) L1 v sv ∧ isData sv = true) vs ss → vs[j]? = some (.ref f) → Paired (fun v sv => SvOk X.K (hid L1 H1) L1 v sv ∧ isData sv = true) vs (ss.set j (.fn (hid L1 H1) f)) := by
        intro vs ss j h
        induction h generalizing j with
        | nil => intro z; simp at z
        | cons r t ih =>
          intro z
          cases j with
          | zero => simp at z; subst z; exact .cons ⟨⟨rfl, Same.refl _⟩, rfl⟩ t
          | succ j => exact .cons r (ih (by simpa using z))
      exact this args (by rw [hvj, evj])
    have hlu : us.length = ps.length := by rw [← rv.length]; exact hlv
    have hlt : j < (svs.map toArg).length := by
      have := (List.getElem?_eq_some_iff.mp hj).1
      simpa using this
    have b := hb s1 us I1.kIn (by rw [List.append_nil]; exact hlu)
    rw [List.append_nil] at b
    show wpAny _ _ (call _ us) _ _ _
    refine wpAny_call (codeAny_mono (F.run X.A X.stack s1 H1 ⟨us, []⟩ us vs Q (WE W σ) L1 _ R RX (hid L1 H1) f (FF caps) hr I1.env0 b rv hlv rel1.lk args' (List.getElem?_set_self hlt) cap (hC _ f)
      (fun sv v L2' H2 hR st2 lk ok => q sv v L2' H2 hR (st1.trans st2) (rel1.step st2 lk) ((new_res rel1 st2 ok).back st1)) (fun x c d L2' H2 hx st2 lk ex => qx x c d L2' H2 hx (st1.trans st2) lk (exOk_call rel1 ex))) fun r s' hq => ?_)
    cases r with
    | error e => exact passAt tk σ pins H1 s1 e s' I1 hq
    | ok fl =>
      cases fl with
      | ret u => exact I1.after hq
      | next => exact False.elim hq
      | brk => exact False.elim hq
      | cont => exact False.elim hq
theorem dx_callL {ps : List Str} {tas : (Hp → Addr → Prop) → TDa} (Fg : HasF X.prog X.w X.K X.mg X.base LK x k kc j ps CF) (mk : Maker X LK kc M js FF) (tk : Takes X W) (hr : Room k X.A) (hg : Gl X x) (ha : DA X LK W fb (e :: es) (tas M)) (hn : ps.length = n := by rfl) (hdb : (x == ("__debug__" : Str)) = false := by decide) (he : starEach (e :: es) X.env = (false, eval e X.env) :: starEach es X.env := by rfl)
    (hpl : (backTo pos (starEach es X.env)).any (·.1) = false := by rfl) :
    DX X LK W ff (.Call (.Name x p1) (e :: es) [] pos) (eCallL n j js FF CF tas) :=
  pe_imp (dx_callF Fg mk tk hr hg ha hn hdb he hpl) fun σ H Q ⟨G, L, δ, R, RX, rel, r, q⟩ => ⟨G, L, δ, R, RX, rel, r M, q⟩
end
end DL

namespace DL
open PySem PySem.Spec PyProof.Rows L2

/-! ### lists of ints that are loose: made, and written by one def -/
def intsD (ns : List Int) : List PyData := ns.map .int
theorem ints_v {K : PySem.W.Frag} {M : Hp} : ∀ {vs : List V} {ns : List Int}, DpAll K M vs (intsD ns) → vs = ns.map V.int
  | _, [], h => by cases h; rfl
  | _, n :: ns, h => by
    cases h with
    | cons h1 h2 => cases h1; rw [ints_v h2]; rfl
theorem ints_dp {K : PySem.W.Frag} {M : Hp} : ∀ (ns : List Int), DpAll K M (ns.map V.int) (intsD ns)
  | [] => .nil
  | n :: ns => .cons (.int n) (ints_dp ns)
/-- the loose things are lists of ints with okN -/
structure LkInts (LK : Lk) (okN : List Int → Prop) : Prop where
  out : ∀ o, LK.ok o → ∃ ns, o = .lst (ns.map V.int) ∧ okN ns
  into : ∀ ns, okN ns → LK.ok (.lst (ns.map V.int))
section
variable {X : Cx} {LK : Lk} {W : WX} {e : Expr} {ta : TDe} {okN : List Int → Prop}
/-- a new list becomes loose -/
@[simp] def eTok (okN : List Int → Prop) (ta : TDe) : TDe := fun δ R RX => ta δ (fun sv => (∃ ns, sv = .own (intsD ns) ∧ okN ns) ∧ R .tok) RX
theorem dx_tok (lk : LkInts LK okN) (he : DX X LK W ff e ta) : DX X LK W ff e (eTok okN ta) :=
  pe_imp he fun σ H Q ⟨G, L, δ, R, RX, rel, r, q, qx⟩ => ⟨G, L, δ, _, _, rel, r, fun sv v L' H' hw st rel' res => by
    obtain ⟨⟨ns, rfl, hn⟩, hR⟩ := hw
    obtain ⟨⟨a, vs, rfl, e1, e2⟩, fresh⟩ := res
    have na := fresh rfl rfl a rfl
    have hN := hid_le _ _ _ _ (fz_le _ _ _ _ _ _ (nw_le _ _ _ _ e1))
    have st2 : Step L H (fun b => L' b || decide (b = a)) H' := ⟨fun b o hb => by
      have hne : b ≠ a := fun z => by rw [z, na] at hb; cases hb
      have := st.1 _ _ hb
      exact hid_of (by simp [hid_nl this, hne]) (hid_le _ _ _ _ this) (hid_nt this), fun b hb => by simp [st.2 b hb]⟩
    have lk2 : LkOk LK (fun b => L' b || decide (b = a)) H' := ⟨fun b hb => by
      by_cases z : b = a
      · subst z
        exact ⟨_, hN, by rw [ints_v e2]; exact lk.into ns hn⟩
      · exact rel'.lk.1 b (by simpa [z] using hb), rel'.lk.2⟩
    exact q .tok (.ref a) _ H' hR st2 (rel.step st2 lk2) ⟨⟨a, rfl, by simp⟩, fun _ z => nomatch z⟩, qx⟩
end
section
variable {P : Program} {w : World} {K : PySem.W.Frag} {mg : Str → Option Value} {base : Heap} {LK : Lk} {okN : List Int → Prop}
/-- at the end the list stands well -/
def finT (okN : List Int → Prop) (b : Addr) (δ' : DS) (sv : SV) (R : SV → Prop) : Prop := ∃ ns, δ'[0]? = some (some (.tk b (intsD ns))) ∧ okN ns ∧ (∃ x, sv = .d x ∧ nolist x = true) ∧ R sv
theorem rel_startT {L : Ls} {N : List Str} {args : List SV} {vs : List V} {H : Hp} {b : Addr} {ns : List Int} (lk : LkOk LK L H) (lb : L b = true) (hb : H b = some (.lst (ns.map V.int))) (pa : Paired (fun v sv => SvOk K (hid L H) L v sv ∧ isData sv = true) vs args) (nt : ∀ s ∈ args, s ≠ .tok) :
    Rel K LK (gd1 L H) (fun a => L a && !decide (a = b)) (startD N (.tk b (intsD ns) :: args)) (L2.start N (.ref b :: vs)) H := by
  have get : ∀ {i sv}, (startD N (.tk b (intsD ns) :: args))[i]? = some (some sv) → (i = 0 ∧ sv = .tk b (intsD ns)) ∨ ∃ j, i = j + 1 ∧ args[j]? = some sv := fun {i sv} h => by
    have := startD_get h
    cases i with
    | zero => simp at this; exact .inl ⟨rfl, this.symm⟩
    | succ j => exact .inr ⟨j, rfl, by simpa using this⟩
  have gs : ∀ {j v}, vs[j]? = some v → (L2.start N (.ref b :: vs))[j + 1]? = some (some v) := fun {j v} h => by
    unfold L2.start
    rw [List.map_cons, List.cons_append, List.getElem?_cons_succ, List.getElem?_append_left (by rw [List.length_map]; exact (List.getElem?_eq_some_iff.mp h).1), List.getElem?_map, h]; rfl
  have own : ∀ a, OwnA (startD N (.tk b (intsD ns) :: args)) (L2.start N (.ref b :: vs)) a → a = b := by
    rintro a ⟨i, sv, h1, h2, h3⟩
    rcases get h1 with ⟨rfl, rfl⟩ | ⟨j, rfl, hj⟩
    · unfold L2.start at h3
      simp at h3; exact h3.symm
    · obtain ⟨v, _, _, hd⟩ := paired_get pa hj
      cases sv <;> simp [isOwn, isData] at h2 hd
  have nb : hid L H b = none := by
    cases z : hid L H b with
    | none => rfl
    | some o => have := hid_nl z; rw [lb] at this; cases this
  have same : Same (hid L H) (fz (fun a => L a && !decide (a = b)) (startD N (.tk b (intsD ns) :: args)) (L2.start N (.ref b :: vs)) H) := fun a o h => by
    have hne : a ≠ b := fun z => by rw [z, nb] at h; cases h
    exact fz_of (hid_of (by simp [hid_nl h]) (hid_le _ _ _ _ h) (hid_nt h)) fun z => hne (own a z)
  refine ⟨Same.refl _, same, ⟨fun a la => lk.1 a (by simp at la; exact la.1), lk.2⟩, fun i sv h => ?_, fun i j a si sj hij h1 h2 o1 o2 e1 e2 => ?_, ?_⟩
  · rcases get h with ⟨rfl, rfl⟩ | ⟨j, rfl, hj⟩
    · refine ⟨.ref b, by unfold L2.start; simp, _, rfl, hid_of (by simp) hb rfl, ints_dp ns⟩
    · obtain ⟨v, hv, ok, hd⟩ := paired_get pa hj
      refine ⟨v, gs hv, ?_⟩
      have ntk := nt sv (List.mem_of_getElem? hj)
      have ok2 := svOk_mono (L' := L) same (fun _ z => z) ok
      cases sv with
      | own _ => simp [isData] at hd
      | oK _ => simp [isData] at hd
      | oT _ => simp [isData] at hd
      | tk _ _ => simp [isData] at hd
      | tok => exact absurd rfl ntk
      | d _ => exact ok2
      | rK _ => exact ok2
      | rT _ => exact ok2
      | fn _ _ => exact ok2
      | xn _ _ _ _ => exact ok2
  · rcases get h1 with ⟨rfl, rfl⟩ | ⟨i', rfl, hi'⟩
    · rcases get h2 with ⟨rfl, rfl⟩ | ⟨j', rfl, hj'⟩
      · exact hij rfl
      · obtain ⟨v, _, _, hd⟩ := paired_get pa hj'
        cases sj <;> simp [isOwn, isData] at o2 hd
    · obtain ⟨v, _, _, hd⟩ := paired_get pa hi'
      cases si <;> simp [isOwn, isData] at o1 hd
  · unfold startD L2.start
    have := paired_len pa
    simp [this]
theorem fnT_ok {x qual : Str} {params : Arguments} {body : List Stmt} {scope : Scope} {dvs : List V} {kws : List (Str × V)} {f : Addr} {fd : FuncData} {N ps : List Str} {k : Nat} {C : Ctr} {ts : TDs} (lk : LkInts LK okN) (F : FunD K x qual params body scope dvs kws f fd) (S : FnScope N ps scope)
    (hb : ∀ (cdv : Value) (A : Around) (outer : List Env) (s : Shared) (H : Hp) (E : XK), Room k (A.deeper (envOfC qual scope s.heap.objs.size f cdv)) → Ds (cx P w K mg base N qual scope f cdv A outer s H E) LK (WD E) body ts)
    (hc : ∀ svs R RX, C svs R RX → ∃ args, svs = .tok :: args ∧ (∀ s ∈ args, s ≠ .tok) ∧ ∀ b ns, okN ns → ts (startD N (.tk b (intsD ns) :: args)) { nx := fun δ' => finT okN b δ' (.d .none) R, rt := fun δ' sv => finT okN b δ' sv R, xc := fun _ _ => False }) : FnOk P w K mg base (L2.CX P w) (k + 1) f fd ps (spD K LK ps.length C) := by
  refine F.ok S (fun vs H Q E ⟨_, _, _, _, h, _⟩ => h) fun cdv A outer s H vs Q E hr h => ⟨_, hb cdv A outer s H E hr, ?_⟩
  obtain ⟨L, svs, R, RX, hl, lkk, pa, hC, q, qx⟩ := h
  obtain ⟨args, rfl, nt, ht⟩ := hc svs R RX hC
  cases pa with
  | @cons v0 _ vs' _ p0 pa =>
    obtain ⟨⟨b, rfl, lb⟩, _⟩ := p0
    obtain ⟨o, hob, oko⟩ := lkk.1 b lb
    obtain ⟨ns, rfl, hn⟩ := lk.out o oko
    have out : ∀ (δ' : DS) (L' : Ls) (σ' : L2.St) (H' : Hp) (gk : Hp) (sv : SV) (v : V), finT okN b δ' sv R → (∀ a, (L a && !decide (a = b)) = true → L' a = true) → Rel K LK ⟨(gd1 L H).n, gk⟩ L' δ' σ' H' → SvOk K (nw (gd1 L H) (hid L' H')) L' v sv → Q v H' := fun δ' L' σ' H' gk sv v fin l rel ok => by
      obtain ⟨ns', h0, hn', ⟨x, rfl, nx⟩, hR⟩ := fin
      obtain ⟨vb, hσ, vs2, rfl, e1, e2⟩ := rel.sl 0 _ h0
      have eb : hid L' H' b = some (.lst (ns'.map V.int)) := by rw [e1, ints_v e2]
      have nb : hid L H b = none := by
        cases z : hid L H b with
        | none => rfl
        | some o => have := hid_nl z; rw [lb] at this; cases this
      have sm : Same (hid L H) (hid L' H') := rel.gF.trans (fz_le _ _ _ _)
      have st : Step L H (fun a => L' a || decide (a = b)) H' := ⟨fun a o h => by
        have hne : a ≠ b := fun z => by rw [z, nb] at h; cases h
        have := sm _ _ h
        exact hid_of (by simp [hid_nl this, hne]) (hid_le _ _ _ _ this) (hid_nt this), fun a la => by
        by_cases z : a = b
        · simp [z]
        · simp [l a (by simp [la, z])]⟩
      refine q (.d x) v _ H' hR st ⟨fun a la => ?_, rel.lk.2⟩ ?_
      · by_cases z : a = b
        · subst z
          exact ⟨_, hid_le _ _ _ _ eb, lk.into _ hn'⟩
        · exact rel.lk.1 a (by simpa [z] using la)
      · refine dp_nolist (fun a xs s => rd_sqT (fun c u mu e => ?_) s) _ _ nx ok
        have e' := nw_le _ _ _ _ e
        have hne : c ≠ b := fun z => by rw [z, eb] at e'; cases e'; cases mu
        exact nw_imm (hid_of (by simp [hid_nl e', hne]) (hid_le _ _ _ _ e') (hid_nt e')) mu
    exact ⟨gd1 L H, _, _, _, rel_startT lkk lb hob pa nt, ht b ns hn, ⟨fun δ' L' σ' H' h l rel => out δ' L' σ' H' _ _ _ h l rel Dp.non, fun _ _ _ _ h => h.elim, fun _ _ _ _ h => h.elim, fun sv v δ' L' σ' H' gk h l rel ok => out δ' L' σ' H' gk sv v h l rel ok, fun _ _ _ _ _ _ _ h => h.elim⟩⟩
end
end DL

namespace DL
open PySem PySem.Spec PyProof.Rows L2

/-! ### methods of texts -/
def isStrV (sv : SV) : Bool := match sv with
  | .d (.str _) => true
  | _ => false
@[simp] theorem isStrV_str (s : Str) : isStrV (.d (.str s)) = true := rfl
theorem isStrV_ok {K : PySem.W.Frag} {M : Hp} {L : Ls} {v : V} {sv : SV} (h : isStrV sv = true) (o : SvOk K M L v sv) : ∃ a, v = .str a ∧ sv = .d (.str a) := by
  unfold isStrV at h
  split at h
  · cases o; exact ⟨_, rfl, rfl⟩
  · cases h
section
variable {X : Cx} {LK : Lk} {W : WX} {fl fa fb' : Fl} {e a b c o : Expr} {es : List Expr} {pos p apos : Pos} {ta tb tc : TDe} {tt tu : TDt} {tas : TDa}
@[simp] def eSm (g : SV → SV → (SV → Prop) → Prop) (ta tb : TDe) : TDe := fun δ R RX => ta δ (fun x => isStrV x = true ∧ tb δ (fun y => g x y R) RX) RX
theorem dx_sm {id : String} {name : Str} {r : V → List V → Hp → VK → Prop} {g : SV → SV → (SV → Prop) → Prop} (slot : Slot "str" name id) (ty : typeOf (.builtin id) = pure (.type "method_descriptor")) (rule : MtR X id r) (ad : Adeq X LK (fun x y H Q => r x [y] H Q) g) (ho : DX X LK W fa o ta) (he : DX X LK W fb' e tb)
    (hs : starEach [e] X.env = [(false, eval e X.env)] := by rfl) (hbase : attributeBase o name X.env (eval o X.env) = eval o X.env := by rfl) (hline : (apos.endLine == pos.line) = true := by rfl) :
    DX X LK W ff (.Call (.Attribute o name apos) [e] [] pos) (eSm g ta tb) :=
  pe_imp (pe_m1 slot ty rule ho he hs hbase hline) fun σ H Q ⟨G, L, δ, R, RX, rel, r, q, qx⟩ => ⟨G, L, δ, _, _, rel, r, fun sx x L1 H1 hw st1 rel1 res1 => by
    obtain ⟨hs, hw⟩ := hw
    obtain ⟨s, e1, e2⟩ := isStrV_ok hs res1.1
    refine ⟨⟨s, e1⟩, G, L1, δ, _, _, rel1, hw, fun sy y L2' H2 hw2 st2 rel2 res2 => ?_, fun x c d L' H' h st lk ex => qx x c d L' H' h (st1.trans st) lk ex⟩
    exact ad G L2' δ σ H2 x y sx sy R Q rel2 ((res1.step st2).b (fz_le _ _ _ _)) (res2.b (fz_le _ _ _ _)) hw2 fun sz z H3 hz st3 rel3 res3 => q sz z L2' H3 hz (st1.trans (st2.trans st3)) rel3 (Res.back res3 (st1.trans st2)), fun x c d L' H' h st lk ex => qx x c d L' H' h st lk ex⟩
def ssI (f : Str → Str → Int) : BinD := fun x y R => match x, y with
  | .str i, .str j => R (.d (.int (f i j)))
  | _, _ => False
def ssB (f : Str → Str → Bool) : BinD := fun x y R => match x, y with
  | .str i, .str j => R (.d (.bool (f i j)))
  | _, _ => False
def indexD : BinD := fun x y R => match x, y with
  | .str i, .str j => ∃ k rest, Builtin.Str.occurrences i j 0 i.length 1 = k :: rest ∧ R (.d (.int (k : Nat)))
  | _, _ => False
@[simp] theorem ssI_str (f : Str → Str → Int) (i j : Str) (R : SV → Prop) : ssI f (.str i) (.str j) R = R (.d (.int (f i j))) := rfl
@[simp] theorem ssB_str (f : Str → Str → Bool) (i j : Str) (R : SV → Prop) : ssB f (.str i) (.str j) R = R (.d (.bool (f i j))) := rfl
@[simp] theorem indexD_str (i j : Str) (R : SV → Prop) : indexD (.str i) (.str j) R = ∃ k rest, Builtin.Str.occurrences i j 0 i.length 1 = k :: rest ∧ R (.d (.int (k : Nat))) := rfl
theorem adeq_ss {r : R2} {g : BinD} (hr : ∀ i j H (Q : VK) R, g (.str i) (.str j) R → (∀ z v, R (.d z) → (∀ M, Dp X.K M v z) → Q v H) → r (.str i) (.str j) H Q) (hn : ∀ x y R, g x y R → ∃ i j, x = .str i ∧ y = .str j) : Adeq X LK r (opD g) := fun G L δ σ H x y sx sy R Q rel hx hy h q => by
  obtain ⟨dx, ex, k⟩ := wD_out h
  clear h
  obtain ⟨dy, ey, h⟩ := wD_out k
  clear k
  have h1 := asD_ok ex hx
  have h2 := asD_ok ey hy
  obtain ⟨i, j, rfl, rfl⟩ := hn _ _ _ h
  cases h1; cases h2
  exact hr i j H Q R h fun z v hz hv => q (.d z) v H hz (Step.refl _ _) rel ⟨hv _, fun _ z => nomatch z⟩
theorem ss_only {g : BinD} (h : ∀ x y R, g x y R → (match x, y with | .str _, .str _ => True | _, _ => False)) : ∀ x y R, g x y R → ∃ i j, x = .str i ∧ y = .str j := fun x y R k => by
  have := h x y R k
  split at this
  · exact ⟨_, _, rfl, rfl⟩
  · exact this.elim
theorem ssI_only {f : Str → Str → Int} : ∀ x y R, ssI f x y R → ∃ i j, x = .str i ∧ y = .str j := ss_only fun x y R k => by
  unfold ssI at k
  split at k
  · trivial
  · exact k.elim
theorem ssB_only {f : Str → Str → Bool} : ∀ x y R, ssB f x y R → ∃ i j, x = .str i ∧ y = .str j := ss_only fun x y R k => by
  unfold ssB at k
  split at k
  · trivial
  · exact k.elim
theorem index_only : ∀ x y R, indexD x y R → ∃ i j, x = .str i ∧ y = .str j := ss_only fun x y R k => by
  unfold indexD at k
  split at k
  · trivial
  · exact k.elim
theorem dx_find (ho : DX X LK W fa o ta) (he : DX X LK W fb' e tb) (hs : starEach [e] X.env = [(false, eval e X.env)] := by rfl) (hbase : attributeBase o "find" X.env (eval o X.env) = eval o X.env := by rfl) (hline : (apos.endLine == pos.line) = true := by rfl) : DX X LK W ff (.Call (.Attribute o "find" apos) [e] [] pos) (eSm (opD (ssI Txt.find)) ta tb) :=
  dx_sm F.slot_str_find F.type_str_find mt_find (adeq_ss (fun i j H Q R h q => ⟨i, j, rfl, rfl, q _ _ h fun _ => Dp.int _⟩) ssI_only) ho he hs hbase hline
theorem dx_rfind (ho : DX X LK W fa o ta) (he : DX X LK W fb' e tb) (hs : starEach [e] X.env = [(false, eval e X.env)] := by rfl) (hbase : attributeBase o "rfind" X.env (eval o X.env) = eval o X.env := by rfl) (hline : (apos.endLine == pos.line) = true := by rfl) : DX X LK W ff (.Call (.Attribute o "rfind" apos) [e] [] pos) (eSm (opD (ssI Txt.rfind)) ta tb) :=
  dx_sm F.slot_str_rfind F.type_str_rfind mt_rfind (adeq_ss (fun i j H Q R h q => ⟨i, j, rfl, rfl, q _ _ h fun _ => Dp.int _⟩) ssI_only) ho he hs hbase hline
theorem dx_count (ho : DX X LK W fa o ta) (he : DX X LK W fb' e tb) (hs : starEach [e] X.env = [(false, eval e X.env)] := by rfl) (hbase : attributeBase o "count" X.env (eval o X.env) = eval o X.env := by rfl) (hline : (apos.endLine == pos.line) = true := by rfl) : DX X LK W ff (.Call (.Attribute o "count" apos) [e] [] pos) (eSm (opD (ssI Txt.count)) ta tb) :=
  dx_sm F.slot_str_count F.type_str_count mt_count (adeq_ss (fun i j H Q R h q => ⟨i, j, rfl, rfl, q _ _ h fun _ => Dp.int _⟩) ssI_only) ho he hs hbase hline
theorem dx_startswith (ho : DX X LK W fa o ta) (he : DX X LK W fb' e tb) (hs : starEach [e] X.env = [(false, eval e X.env)] := by rfl) (hbase : attributeBase o "startswith" X.env (eval o X.env) = eval o X.env := by rfl) (hline : (apos.endLine == pos.line) = true := by rfl) : DX X LK W ff (.Call (.Attribute o "startswith" apos) [e] [] pos) (eSm (opD (ssB Txt.startswith)) ta tb) :=
  dx_sm F.slot_str_startswith F.type_str_startswith mt_startswith (adeq_ss (fun i j H Q R h q => ⟨i, j, rfl, rfl, q _ _ h fun _ => Dp.bl _⟩) ssB_only) ho he hs hbase hline
theorem dx_endswith (ho : DX X LK W fa o ta) (he : DX X LK W fb' e tb) (hs : starEach [e] X.env = [(false, eval e X.env)] := by rfl) (hbase : attributeBase o "endswith" X.env (eval o X.env) = eval o X.env := by rfl) (hline : (apos.endLine == pos.line) = true := by rfl) : DX X LK W ff (.Call (.Attribute o "endswith" apos) [e] [] pos) (eSm (opD (ssB Txt.endswith)) ta tb) :=
  dx_sm F.slot_str_endswith F.type_str_endswith mt_endswith (adeq_ss (fun i j H Q R h q => ⟨i, j, rfl, rfl, q _ _ h fun _ => Dp.bl _⟩) ssB_only) ho he hs hbase hline
theorem dx_index (ho : DX X LK W fa o ta) (he : DX X LK W fb' e tb) (hs : starEach [e] X.env = [(false, eval e X.env)] := by rfl) (hbase : attributeBase o "index" X.env (eval o X.env) = eval o X.env := by rfl) (hline : (apos.endLine == pos.line) = true := by rfl) : DX X LK W ff (.Call (.Attribute o "index" apos) [e] [] pos) (eSm (opD indexD) ta tb) :=
  dx_sm F.slot_str_index F.type_str_index mt_sindex (adeq_ss (fun i j H Q R ⟨k, rest, h0, h⟩ q => ⟨i, j, k, rest, rfl, rfl, h0, q _ _ h fun _ => Dp.int _⟩) index_only) ho he hs hbase hline
/-! join, split -/
def strsD : List PyData → Option (List Str)
  | [] => some []
  | .str s :: r => (strsD r).map (s :: ·)
  | _ :: _ => none
@[simp] theorem strsD_nil : strsD [] = some [] := rfl
theorem strsD_map (l : List Str) : strsD (l.map .str) = some l := by
  induction l with
  | nil => rfl
  | cons s r ih => simp [strsD, ih]
theorem strsD_ok {K : PySem.W.Frag} {M : Hp} : ∀ {vs : List V} {ds : List PyData} {ys : List Str}, DpAll K M vs ds → strsD ds = some ys → vs = ys.map V.str
  | _, [], ys, h, e => by cases h; simp [strsD] at e; subst e; rfl
  | _, d :: ds, ys, h, e => by
    cases h with
    | cons h1 h2 =>
      cases d <;> simp [strsD] at e
      obtain ⟨zs, e1, e2⟩ := e
      subst e2
      cases h1
      rw [strsD_ok h2 e1]; rfl
def joinV (x y : SV) (R : SV → Prop) : Prop := wD x fun d => wD y fun e => match d, e with
  | .str i, .list ds => ∃ ys, strsD ds = some ys ∧ (ys.map (·.length)).sum + ys.length * i.length ≤ 16777216 ∧ R (.d (.str (Txt.join i ys)))
  | .str i, .tuple ds => ∃ ys, strsD ds = some ys ∧ (ys.map (·.length)).sum + ys.length * i.length ≤ 16777216 ∧ R (.d (.str (Txt.join i ys)))
  | _, _ => False
@[simp] theorem joinV_own (i : Str) (ds : List PyData) (R : SV → Prop) : joinV (.d (.str i)) (.own ds) R = ∃ ys, strsD ds = some ys ∧ (ys.map (·.length)).sum + ys.length * i.length ≤ 16777216 ∧ R (.d (.str (Txt.join i ys))) := rfl
theorem dx_join (ho : DX X LK W fa o ta) (he : DX X LK W fb' e tb) (hs : starEach [e] X.env = [(false, eval e X.env)] := by rfl) (hbase : attributeBase o "join" X.env (eval o X.env) = eval o X.env := by rfl) (hline : (apos.endLine == pos.line) = true := by rfl) : DX X LK W ff (.Call (.Attribute o "join" apos) [e] [] pos) (eSm joinV ta tb) :=
  dx_sm F.slot_str_join F.type_str_join mt_join (fun G L δ σ H x y sx sy R Q rel hx hy h q => by
    obtain ⟨dx, ex, k⟩ := wD_out h
    clear h
    obtain ⟨dy, ey, h⟩ := wD_out k
    clear k
    have h1 := asD_ok ex hx
    have h2 := asD_ok ey hy
    cases h1 <;> first | exact h.elim | skip
    cases h2 <;> first | exact h.elim | skip
    · obtain ⟨ys, e1, e2, e3⟩ := h
      rename_i s d
      exact ⟨_, _, ys, rfl, rfl, .inl (by rw [← strsD_ok d e1]; exact hid_sqL s), e2, q _ _ H e3 (Step.refl _ _) rel (res_sc fun _ => Dp.str _)⟩
    · obtain ⟨ys, e1, e2, e3⟩ := h
      rename_i s d
      exact ⟨_, _, ys, rfl, rfl, .inr (by rw [← strsD_ok d e1]; exact hid_sqT s), e2, q _ _ H e3 (Step.refl _ _) rel (res_sc fun _ => Dp.str _)⟩) ho he hs hbase hline
theorem dp_strs {K : PySem.W.Frag} {M : Hp} : ∀ (l : List Str), DpAll K M (l.map V.str) (l.map .str)
  | [] => .nil
  | s :: r => .cons (.str s) (dp_strs r)
def splitV (x y : SV) (R : SV → Prop) : Prop := wD x fun d => wD y fun e => match d, e with
  | .str i, .str j => (j.length == 0) = false ∧ i.length + 2 ≤ sizeLine ∧ R (.own ((Txt.split i j).map .str))
  | _, _ => False
@[simp] theorem splitV_str (i j : Str) (R : SV → Prop) : splitV (.d (.str i)) (.d (.str j)) R = ((j.length == 0) = false ∧ i.length + 2 ≤ sizeLine ∧ R (.own ((Txt.split i j).map .str))) := rfl
theorem dx_split (ho : DX X LK W fa o ta) (he : DX X LK W fb' e tb) (hs : starEach [e] X.env = [(false, eval e X.env)] := by rfl) (hbase : attributeBase o "split" X.env (eval o X.env) = eval o X.env := by rfl) (hline : (apos.endLine == pos.line) = true := by rfl) : DX X LK W ff (.Call (.Attribute o "split" apos) [e] [] pos) (eSm splitV ta tb) :=
  dx_sm F.slot_str_split F.type_str_split mt_split (fun G L δ σ H x y sx sy R Q rel hx hy h q => by
    obtain ⟨dx, ex, k⟩ := wD_out h
    clear h
    obtain ⟨dy, ey, h⟩ := wD_out k
    clear k
    have h1 := asD_ok ex hx
    have h2 := asD_ok ey hy
    cases h1 <;> cases h2 <;> first | exact h.elim | skip
    obtain ⟨e1, e2, e3⟩ := h
    exact ⟨_, _, rfl, rfl, e1, e2, fun p hp => q _ _ _ e3 (rel.stepNew hp) (rel.new hp) (res_new rel hp ⟨p, _, rfl, new_at rel hp, dp_strs _⟩)⟩) ho he hs hbase hline
/-! powers of constants, int of a text -/
def powD : BinD := fun x y R => match x, y with | .int i, .int j => CPow i j ∧ R (.d (.int (i ^ j.toNat))) | _, _ => False
@[simp] theorem powD_int (i j : Int) (R : SV → Prop) : powD (.int i) (.int j) R = (CPow i j ∧ R (.d (.int (i ^ j.toNat)))) := rfl
theorem dx_pow (ha : DX X LK W fa a ta) (hb : DX X LK W fb' b tb) : DX X LK W ff (.BinOp a .Pow b pos) (eB (opD powD) ta tb) :=
  pe_imp (pe_op op_pow ha hb) fun _ _ _ h => tOp_dx (adeq_int (C := CPow) (g := fun i j => .int (i ^ j.toNat)) (gd := fun i j => .int (i ^ j.toNat)) (fun _ _ _ => Dp.int _)) h
end
end DL

namespace DL
open PySem PySem.Spec PyProof.Rows L2

theorem Room.u1 {k : Nat} {A : Around} (r : Room k A) : A.units + 1 < cLine := by have := r.un; omega
@[simp] def eDNewK : TDe := fun _ R _ => R (.oK [])
@[simp] def augA : SV → SV → (SV → Prop) → Prop := fun a b R => match a, b with | .d (.int i), .d (.int j) => R (.d (.int (i + j))) | _, _ => False
@[simp] def augS : SV → SV → (SV → Prop) → Prop := fun a b R => match a, b with | .d (.int i), .d (.int j) => R (.d (.int (i - j))) | _, _ => False
/-! ### a def that makes functions: its code object is known -/
section
variable {P : Program} {w : World} {K : PySem.W.Frag} {mg : Str → Option Value} {base : Heap} {LK : Lk}
theorem fn_okC {p : He.Defn} {x qual : Str} {params : Arguments} {body : List Stmt} {scope : Scope} {dvs : List V} {kws : List (Str × V)} {fd : FuncData} {N ps : List Str} {k : Nat} {C : Ctr} {ts : TDs} (F : FunD K x qual params body scope dvs kws (He.fAd K p) fd) (S : FnScope N ps scope)
    (hb : ∀ (A : Around) (outer : List Env) (s : Shared) (H : Hp) (E : XK), Room k (A.deeper (envOfC qual scope s.heap.objs.size (He.fAd K p) (.ref (He.codeOf K p)))) → Ds (cx P w K mg base N qual scope (He.fAd K p) (.ref (He.codeOf K p)) A outer s H E) LK (WD E) body ts)
    (hc : ∀ args R RX, args.length = ps.length → C args R RX → ts (startD N args) { nx := fun _ => R (.d .none), rt := fun _ => R, xc := fun _ => RX }) : FnOk P w K mg base (L2.CX P w) (k + 1) (He.fAd K p) fd ps (spD K LK ps.length C) := by
  obtain ⟨oc, od, dV, kV, doc, pm, an, cdv, ct, osl, rfl, lk, hcd, _, _⟩ := F.ex
  obtain ⟨c, rfl⟩ := He.codeIn_ref hcd
  have e : He.codeOf K p = c := He.codeOf_eq lk rfl
  subst e
  refine fn_of lk hcd S (fun vs H Q E ⟨_, _, _, _, h, _⟩ => h) fun A outer s H vs Q E hr h => ⟨_, hb A outer s H E hr, ?_⟩
  obtain ⟨L, args, R, RX, hl, lk, pa, hC, q, qx⟩ := h
  refine ⟨gd1 L H, L, startD N args, _, rel_start lk pa, hc args R RX ((paired_len pa).symm.trans hl) hC, ⟨fun δ' L' σ' H' h l rel => ?_, fun _ _ _ _ h => h.elim, fun _ _ _ _ h => h.elim, fun sv v δ' L' σ' H' gk h l rel ok => ?_, fun x c d δ' L' σ' H' h l rel ex => ?_⟩⟩
  · exact q _ _ L' H' h ⟨rel.gF.trans (fz_le _ _ _ _), l⟩ rel.lk Dp.non
  · exact q _ _ L' H' h ⟨rel.gF.trans (fz_le _ _ _ _), l⟩ rel.lk ok
  · exact qx x c d L' H' h ⟨rel.gF.trans (fz_le _ _ _ _), l⟩ rel.lk ex
theorem tab_u {T : List (Addr × Str)} {P : Addr} {q : Str} (nd : (T.map (·.1)).Nodup) (hm : (P, q) ∈ T) : ∀ p ∈ T, p.1 = P → p.2 = q := by
  induction T with
  | nil => cases hm
  | cons t r ih =>
    rw [List.map_cons, List.nodup_cons] at nd
    intro p hp e
    rcases List.mem_cons.mp hp with rfl | hp2
    · rcases List.mem_cons.mp hm with h | h
      · rw [← h]
      · exact absurd (List.mem_map.mpr ⟨_, h, e.symm⟩) nd.1
    · rcases List.mem_cons.mp hm with h | h
      · subst h
        exact (nd.1 (List.mem_map.mpr ⟨p, hp2, e⟩)).elim
      · exact ih nd.2 h p hp2 e
end
/-! ### enumerate -/
section
set_option maxHeartbeats 1000000 in
theorem meets_enum1 {v : Value} {o : Obj} {H : Heap → Prop} (B : Begins v o H) :
    Meets (Builtin.«enumerate.__new__» ⟨[.type "enumerate", v], []⟩) (fun _ R s => H s.heap ∧
      R (.ok (.ret (.ref (s.heap.push o).objs.size))) { s with heap := (s.heap.push o).push { cls := .type "enumerate", data := .fields #[.none, .bool false, .ref s.heap.objs.size, rawInt 0, .none, .none] } }) :=
  .of_wp fun prog w A R s h => by
    obtain ⟨hp, g, d, tk, os⟩ := s
    obtain ⟨h1, h⟩ := h
    have hsub := sub_enumerate
    have q1 : ∀ {A' : Around} {E : Value → Shared → Prop} {Q : Value → Shared → Prop}, Q (.ref hp.objs.size) ⟨hp.push o, g, d, tk, os⟩ → wpAny (model prog w) A' (pyIter v) Q E ⟨hp, g, d, tk, os⟩ := fun q => B.iter prog w _ _ ⟨hp, g, d, tk, os⟩ _ h1 q
    wp_walk using q1
    refine wpAny_stack_any fun st => wpAny_pure ?_
    split
    · rename_i c _ _ _ _ _
      cases (c == Value.type "enumerate") <;> (wp_walk using q1; exact ⟨_, rfl, h⟩)
    · wp_walk using q1
      exact ⟨_, rfl, h⟩
theorem enum1_begins {prog : Program} {w : World} {A : Around} {E : Value → Shared → Prop} {s : Shared} {v : Value} {o : Obj} {H : Heap → Prop} {Q : Value → Shared → Prop} (B : Begins v o H) (h1 : H s.heap)
    (h : ∀ h', IsEnum h' (s.heap.objs.size + 1) s.heap.objs.size 0 .none → h'.get? s.heap.objs.size = some o → (∀ b o, s.heap.get? b = some o → h'.get? b = some o) → Q (.ref (s.heap.objs.size + 1)) { s with heap := h' }) :
    wpAny (model prog w) A (call (.type "enumerate") [v]) Q E s := by
  refine callType_new F.called_enumerate (by decide) (F.typeCall_enumerate_1 _) (F.newCall_enumerate_1 _) (fun obj => F.args_object_init_2 obj _) F.entry_enumerate_new (meets_enum1 B) ⟨h1, ?_⟩
  have hz : (s.heap.push o).objs.size = s.heap.objs.size + 1 := Heap.size_push ..
  have he : IsEnum ((s.heap.push o).push { cls := .type "enumerate", data := .fields #[.none, .bool false, .ref s.heap.objs.size, rawInt 0, .none, .none] }) (s.heap.objs.size + 1) s.heap.objs.size 0 .none := by
    have := Heap.get?_push_size (s.heap.push o) (o := { cls := .type "enumerate", data := .fields #[.none, .bool false, .ref s.heap.objs.size, rawInt 0, .none, .none] }) rfl
    rw [hz] at this
    exact this
  show _ ∧ _
  rw [hz]
  exact ⟨⟨_, he, rfl⟩, h _ he (Heap.get?_push_of_some _ (Heap.get?_push_size _ B.free)) fun b o x => Heap.get?_push_of_some _ (Heap.get?_push_of_some _ x)⟩
/-- the tuple at a, each item in a new pair -/
def IteT (K : PySem.W.Frag) (a : Addr) : It :=
  ⟨fun i H => ∃ (xs : List V) (x : V), SqT K H a xs ∧ xs[i]? = some x, fun i H v H' => ∃ T x, v = .ref T ∧ H T = none ∧ H' = upd H T (.tup [.int (i : Nat), x]) ∧ ∀ xs, SqT K H a xs → xs[i]? = some x, fun i H => ∃ xs : List V, SqT K H a xs ∧ xs.length = i⟩
theorem tup_ne_it {h : Heap} {a it t : Addr} {i : Nat} {its : Array Value} (p : h.IsTuple a its) (q : h.IsTupleIter it t i) : a ≠ it := fun z => by
  obtain ⟨o, e, c, _⟩ := p
  obtain ⟨o', e', c', _⟩ := q
  rw [z, e'] at e
  cases e
  rw [c] at c'
  exact absurd (Value.type.inj c') (by decide)
theorem tup_ne_en {h : Heap} {a e it : Addr} {i : Int} {old : Value} {its : Array Value} (p : h.IsTuple a its) (q : IsEnum h e it i old) : a ≠ e := fun z => by
  obtain ⟨o, e1, c, _⟩ := p
  rw [z] at e1
  have q' : h.get? e = some _ := q
  rw [q'] at e1
  cases e1
  exact absurd (Value.type.inj c) (by decide)
theorem turn_enumT {P : Program} {w : World} {K : PySem.W.Frag} {elts : List Expr} {kk : Nat} {tpos : Pos} (a e it : Addr) :
    Turn P w K (.Tuple elts kk tpos) (IteT K a) [e, it] e (fun i h => (∃ old, IsEnum h e it ((i : Nat) : Int) old) ∧ h.IsTupleIter it a i ∧ e ≠ it) where
  mem := by simp
  obj := fun i h st b hb => by
    obtain ⟨⟨old, he⟩, ⟨o, ho, hc, hd⟩, _⟩ := st
    rcases (show b = e ∨ b = it by simpa using hb) with rfl | rfl
    · exact ⟨_, he, fun v q => nomatch q⟩
    · exact ⟨o, ho, fun v q => by rw [hd] at q; cases q⟩
  keep := fun i h h' st k => ⟨⟨_, k e (by simp) _ st.1.choose_spec⟩, st.2.1.at fun o q => k it (by simp) o q, st.2.2⟩
  item := by
    intro X hP hw hK hc i pins s σ H E I hf st hg
    subst hP hw hK
    obtain ⟨⟨old, he⟩, hit, hne⟩ := st
    obtain ⟨xs, x, hq, hx⟩ := hg
    obtain ⟨its, rv, p, hz⟩ := I.tuple hq
    have pt : s.heap.IsTuple a its.toArray := p
    obtain ⟨u, hu, ru⟩ := rv.get hx
    have hel : e < s.heap.objs.size := Heap.lt_size he
    have hil : it < s.heap.objs.size := by obtain ⟨_, q, _⟩ := hit; exact Heap.lt_size q
    have ai := tup_ne_it pt hit
    have ae := tup_ne_en pt he
    have hlt : i < its.toArray.size := by
      have := (List.getElem?_eq_some_iff.mp hu).1
      simpa using this
    have hd : X.A.in1.handled = none := I.ok.hd hc
    refine wpAny_pyNext_enum_itemD (Draws.tuple (prog := X.prog) (w := X.w) hd it a ai its.toArray) he ⟨hit, pt⟩ hlt hne (by simp [hne, Ne.symm ae]) fun x' h' tk hx' ho hst' hT hsz hk => ?_
    have ex : x' = u := by
      have h1 : its[i]? = some x' := by simpa using hx'
      rw [hu] at h1
      exact (Option.some.inj h1).symm
    subst ex
    refine ⟨_, rfl, wpAny_letOwnedTupleGo_enum (s := { s with heap := h', toks := tk + 1 }) ho fun h'' he' sb => ?_⟩
    have hT2 := (sb.2 _ (Nat.ne_of_gt hel)).trans hT
    have new : ObjOk X.prog X.w (upd H s.heap.objs.size (.tup [.int (i : Nat), x])) h'' s.heap.objs.size (.tup [.int (i : Nat), x]) :=
      ⟨by show 2 ≤ sizeLine; decide, [.int i tk, x'], .cons ⟨_, rfl⟩ (.cons ru .nil), ⟨_, hT2, rfl, _, rfl⟩⟩
    have I1 : Inv X pins σ (upd H s.heap.objs.size (.tup [.int (i : Nat), x])) { s with heap := h'', toks := tk + 1 } :=
      I.turnedNew (ch := [e, it]) (fun b ob hb q => (sb.2 b (fun z => hb (by simp [z]))).trans (hk b ob (fun z => hb (by simp [z])) (fun z => hb (by simp [z])) q)) hf (Nat.le_refl _) new
    refine ⟨.ref s.heap.objs.size, _, I1, rfl, ⟨_, x, rfl, I.hok.fresh (Nat.le_refl _), rfl, fun ys hy => by rw [I.tuple_inj hy hq]; exact hx⟩, ⟨⟨x', ?_⟩, hst'.1.at fun o q => (sb.2 it (Ne.symm hne)).trans q, hne⟩, fun b hb => ?_⟩
    · rw [show ((i + 1 : Nat) : Int) = (i : Int) + 1 by omega]
      exact he'
    · have hb' : b < s.heap.objs.size := by
        rcases (show b = e ∨ b = it by simpa using hb) with rfl | rfl
        · exact hel
        · exact hil
      rw [upd_ne (Nat.ne_of_lt hb')]
      exact (hf b hb).1
  done := by
    intro X hP hw hK hc i pins s σ H E I hf st hg
    subst hP hw hK
    obtain ⟨⟨old, he⟩, hit, hne⟩ := st
    obtain ⟨xs, hq, hx⟩ := hg
    obtain ⟨its, rv, p, hz⟩ := I.tuple hq
    have pt : s.heap.IsTuple a its.toArray := p
    obtain ⟨f0, f1, f2, f3, f4, f5⟩ := hf it (by simp)
    have hl := rv.length
    subst hx
    have hit' : s.heap.IsTupleIter it a its.toArray.size := by
      have e : its.toArray.size = xs.length := by simp [hl]
      rw [e]; exact hit
    exact wpAny_pyNext_enum_endD (Draws.tuple (prog := X.prog) (w := X.w) (A := X.A.in1) (I.ok.hd hc) it a (tup_ne_it pt hit) its.toArray) he ⟨hit', pt⟩ fun h' eb => ⟨rfl, I.turned (t' := s.toks) (fun b o hb q => eb b o hb q) f0 f1 f3 f4 f5⟩
  self := fun A i s Q E st h => let ⟨⟨_, he⟩, _⟩ := st; wpAny_pyIter_enum he h
def iEnumA (K : PySem.W.Frag) (ta : TA) : TI := fun σ H R => ta σ H fun vs H1 => ∃ a xs, vs = [.ref a] ∧ ((SqL K H1 a xs ∧ R (Ite K a) H1) ∨ (SqT K H1 a xs ∧ R (IteT K a) H1))
theorem pi_enumA {X : Cx} {e : Expr} {ta : TA} {p pos tpos : Pos} {elts : List Expr} {kk : Nat} (hg : Gl X "enumerate") (hm : X.mg "enumerate" = none) (ha : PA X [e] ta) (hs : starEach [e] X.env = [(false, eval e X.env)] := by rfl) :
    PI X (.Tuple elts kk tpos) (.Call (.Name "enumerate" p) [e] [] pos) (iEnumA X.K ta) := by
  refine ⟨fun pins s σ H R I h => ?_⟩
  refine Call_ (ld_blt I hg hm boot_enumerate (PyProof.Rows.callWith_type1 (thn (ha.run pos pins s σ H _ I h) fun us s1 ⟨vs, H1, I1, r1, q1⟩ => ?_) hs rfl))
  obtain ⟨a, xs, ex, q⟩ := q1
  subst ex
  cases r1 with
  | cons r rr =>
    cases rr
    cases r
    have two : ∀ b, b ∈ [s1.heap.objs.size + 1, s1.heap.objs.size] → s1.heap.objs.size ≤ b := fun b hb => by
      rcases (show b = s1.heap.objs.size + 1 ∨ b = s1.heap.objs.size by simpa using hb) with z | z
      · omega
      · omega
    rcases q with ⟨hq, q⟩ | ⟨hq, q⟩
    · obtain ⟨its, rv, p', hz⟩ := I1.list hq
      refine call_enumerate_list p'.isList fun h' he hit hsz hk => wpAny_pyIter_enum he ?_
      exact ⟨s1.heap.objs.size + 1, [s1.heap.objs.size + 1, s1.heap.objs.size], _, _, H1, rfl, I1.kept (t' := s1.toks) hk, turn_enum a (s1.heap.objs.size + 1) s1.heap.objs.size, ⟨⟨.none, he⟩, hit, Nat.succ_ne_self _⟩, fun b hb => I1.fpOk (two b hb) (I1.hok.fresh (two b hb)), q⟩
    · obtain ⟨its, rv, p', hz⟩ := I1.tuple hq
      have pt : s1.heap.IsTuple a its.toArray := p'
      refine enum1_begins (begins_tuple a its.toArray) pt fun h' he hit hk => wpAny_pyIter_enum he ?_
      exact ⟨s1.heap.objs.size + 1, [s1.heap.objs.size + 1, s1.heap.objs.size], _, _, H1, rfl, I1.kept (t' := s1.toks) hk, turn_enumT a (s1.heap.objs.size + 1) s1.heap.objs.size, ⟨⟨.none, he⟩, ⟨_, hit, rfl, rfl⟩, Nat.succ_ne_self _⟩, fun b hb => I1.fpOk (two b hb) (I1.hok.fresh (two b hb)), q⟩
end
section
variable {X : Cx} {LK : Lk} {W : WX} {fl : Fl} {e : Expr} {pos p tpos : Pos} {ta : TDe} {elts : List Expr} {kk : Nat}
def pairsD (ds : List PyData) : List PyData := (List.range ds.length).zipWith (fun (k : Nat) d => .tuple [.int k, d]) ds
theorem pairs_len (ds : List PyData) : (pairsD ds).length = ds.length := by simp [pairsD]
theorem pairs_get {ds : List PyData} {i : Nat} {d : PyData} (h : ds[i]? = some d) : (pairsD ds)[i]? = some (.tuple [.int (i : Nat), d]) := by
  have hi := (List.getElem?_eq_some_iff.mp h).1
  unfold pairsD
  rw [List.getElem?_zipWith, h]
  simp [hi]
theorem itOk_enumL {K : PySem.W.Frag} {ad : Addr} {vs : List V} {ds : List PyData} {MS MI : Hp} (s : SqL K MS ad vs) (d : DpAll K MI vs ds) : ItOk K (pairsD ds) (Ite K ad) MS MI := by
  have hl := dpA_len d
  refine ⟨fun i H sm hi => ⟨vs, vs[i]'(by rw [pairs_len] at hi; omega), sm.seq s, by rw [pairs_len] at hi; simp [hl, hi]⟩, fun i H sm hi => ⟨vs, sm.seq s, by rw [pairs_len] at hi; omega⟩, fun i H x H' sm hi h => ?_⟩
  obtain ⟨T, y, rfl, n, rfl, h⟩ := h
  obtain ⟨dd, h1, h2⟩ := dpA_get d (h vs (sm.seq s))
  exact ⟨_, pairs_get h1, .inr ⟨T, _, _, n, rfl, rfl, rfl, .cons (.int _) (.cons h2 .nil)⟩⟩
theorem itOk_enumT {K : PySem.W.Frag} {ad : Addr} {vs : List V} {ds : List PyData} {MS MI : Hp} (s : SqT K MS ad vs) (d : DpAll K MI vs ds) : ItOk K (pairsD ds) (IteT K ad) MS MI := by
  have hl := dpA_len d
  refine ⟨fun i H sm hi => ⟨vs, vs[i]'(by rw [pairs_len] at hi; omega), same_sqT sm s, by rw [pairs_len] at hi; simp [hl, hi]⟩, fun i H sm hi => ⟨vs, same_sqT sm s, by rw [pairs_len] at hi; omega⟩, fun i H x H' sm hi h => ?_⟩
  obtain ⟨T, y, rfl, n, rfl, h⟩ := h
  obtain ⟨dd, h1, h2⟩ := dpA_get d (h vs (same_sqT sm s))
  exact ⟨_, pairs_get h1, .inr ⟨T, _, _, n, rfl, rfl, rfl, .cons (.int _) (.cons h2 .nil)⟩⟩
/-- a list or a tuple that is data -/
def enumV (sv : SV) (R : List PyData → Prop) : Prop := wD sv fun d => match d with
  | .list ds => R ds
  | .tuple ds => R ds
  | _ => False
@[simp] theorem enumV_lst (xs : List PyData) (R : List PyData → Prop) : enumV (.d (.list xs)) R = R xs := rfl
@[simp] theorem enumV_own (xs : List PyData) (R : List PyData → Prop) : enumV (.own xs) R = R xs := rfl
@[simp] theorem enumV_tup (xs : List PyData) (R : List PyData → Prop) : enumV (.d (.tuple xs)) R = R xs := rfl
@[simp] def iEnumD (fl : Fl) (ta : TDe) : TDi := fun δ R RX => ta δ (fun sv => enumV sv fun ds => R (pairsD ds)) RX
theorem di_enum (o : Bool) (hg : Gl X "enumerate") (hm : X.mg "enumerate" = none) (he : DX X LK W fl e ta) (ho : fl.o = true := by decide) (hs : starEach [e] X.env = [(false, eval e X.env)] := by rfl) (hs' : starEach [e] X.env = (false, eval e X.env) :: starEach [] X.env := by rfl) :
    DI X LK W o (.Tuple elts kk tpos) (.Call (.Name "enumerate" p) [e] [] pos) (iEnumD fl ta) :=
  pi_imp (pi_enumA hg hm (pa_cons he pa_nil hs') hs) fun σ H Q ⟨G, L, δ, R, RX, rel, r, q, qx⟩ => ⟨G, L, δ, _, _, rel, r, fun sv v L' H' hw st rel' res => by
    obtain ⟨d, ed, hR⟩ := wD_out hw
    have dF := dp_mono (pk_o ho) _ _ (asD_ok ed res.1)
    have toH : Same (fz L' δ σ H') H' := (fz_le _ _ _ _).trans (hid_le _ _)
    have ok : ∀ {items J}, ItOk X.K items J (fz L' δ σ H') (fz L' δ σ H') → ItOk X.K items J (if o = true then fz L' δ σ H' else hid L' H') (fz L' δ σ H') := fun {items J} h => by
      cases o with
      | true => exact h
      | false => exact ⟨fun i H sm => h.1 i H ((fz_le _ _ _ _).trans sm), fun i H sm => h.2.1 i H ((fz_le _ _ _ _).trans sm), fun i H x H2 sm => h.2.2 i H x H2 ((fz_le _ _ _ _).trans sm)⟩
    cases d <;> first | exact hR.elim | skip
    · cases dF with | lst s dd => exact ⟨_, _, rfl, .inl ⟨toH.seq s, q _ _ L' H' hR st rel' (ok (itOk_enumL s dd))⟩⟩
    · cases dF with | tup s dd => exact ⟨_, _, rfl, .inr ⟨same_sqT toH s, q _ _ L' H' hR st rel' (ok (itOk_enumT s dd))⟩⟩, qx⟩
end
end DL
namespace DL
open PySem PySem.Spec L2
/-- the pieces of a def that writes a loose list keep its contract -/
def AdT (okN : List Int → Prop) (C : Ctr) (ts : TDs) (N : List Str) : Prop := ∀ (svs : List SV) (R : SV → Prop) (RX : Exn → Prop), C svs R RX → ∃ args, svs = .tok :: args ∧ (∀ s ∈ args, s ≠ .tok) ∧ ∀ b ns, okN ns → ts (startD N (.tk b (intsD ns) :: args)) { nx := fun δ' => finT okN b δ' (.d .none) R, rt := fun δ' sv => finT okN b δ' sv R, xc := fun _ _ => False }
end DL
namespace DL
open PySem PySem.Spec PyProof.Rows L2
section
variable {X : Cx} {LK : Lk} {W : WX} {pos : Pos}
theorem dx_glob_tup {x : Str} {a : Addr} {d : PyData} (hg : Gl X x) (hm : X.mg x = some (.ref a)) (hv : ∀ M, Dp X.K M (.ref a) d) (hd : (x == ("__debug__" : Str)) = false := by decide) : DX X LK W ff (.Name x pos) (eC d) := dx_glob (v := .ref a) hg hm rfl hv hd
theorem dx_call0 {k : Nat} {f : Addr} {fd : FuncData} {ps : List Str} {C : Ctr} {n : Nat} {x : Str} {p : Pos} (F : FnOk X.prog X.w X.K X.mg X.base (L2.CX X.prog X.w) k f fd ps (spD X.K LK n C)) (tk : Takes X W) (hr : Room k X.A) (hg : Gl X x) (hm : X.mg x = some (.ref f))
    (hk : PySem.W.keepIn X.K (.ref f) = true) (hb : Binds X.K fd ps []) (hdb : (x == ("__debug__" : Str)) = false := by decide) : DX X LK W ff (.Call (.Name x p) [] [] pos) (eCall n C aNil) := by
  refine ⟨fun pins s σ H Q I h => ?_⟩
  obtain ⟨G, L, δ, R, RX, rel, ⟨hl, hc⟩, q, qx⟩ := h
  refine wpAny_Call_Name_kw (ld_glob I hg hm ?_ hdb)
  refine PySem.W.callWith_K0 I.kIn hk (run_fnS (us := []) (vs := []) (E := WE W) F hr hb (passAt tk σ) I .nil ?_)
  exact ⟨L, [], R, RX, hl, rel.lk, .nil, hc, fun sv v L' H' hR st lk ok => q sv v L' H' hR st (rel.step st lk) (new_res rel st ok), fun x c d L' H' hx st lk ex => qx x c d L' H' hx st lk (exOk_call rel ex)⟩
/-- x.extend(e) -/
def seqD (sv : SV) (R : List PyData → Prop) : Prop := wD sv fun d => match d with
  | .list ds => R ds
  | .tuple ds => R ds
  | _ => False
end
end DL

namespace DL
open PySem PySem.Spec PyProof.Rows L2

/-! ### defs that may run while an exception is handled: they raise nothing -/
/-- the body's context, whatever is handled -/
abbrev cxW (P : Program) (w : World) (K : PySem.W.Frag) (mg : Str → Option Value) (base : Heap) (N : List Str) (qual : Str) (scope : Scope) (f : Addr) (cd : Value) (A : Around) (outer : List Env) (s : Shared) (H : Hp) (E : XK) : Cx :=
  { cxOf CXF P w K mg base N qual scope f cd A outer s H E with calm := false }
structure FnWk (P : Program) (w : World) (K : PySem.W.Frag) (mg : Str → Option Value) (base : Heap) (k : Nat) (f : Addr) (fd : FuncData) (ps : List Str) (sp : Sp) : Prop where
  len : ∀ vs H Q E, sp vs H Q E → vs.length = ps.length
  run : ∀ (A : Around) (outer : List Env) (s : Shared) (H : Hp) (args : Args) (us : List Value) (vs : List V) (Q : VK), L2H.RoomH k A → Env0 P w K mg base A outer s H → BindsTo s fd args (ps.zip us) → Vals vs us → sp vs H Q (fun _ _ _ => False) →
    codeAny (model P w) A (.call (.ref f) args) (CR CXF outer P w H s Q (fun _ _ _ => False)) s
theorem roomM {k j : Nat} {A : Around} {v : Option Value} (hr : Room j A) (h : k ≤ j) : L2H.RoomH k (A.mark v) := ⟨(hr.mono h).dp, (hr.mono h).un⟩
section
variable {P : Program} {w : World} {K : PySem.W.Frag} {mg : Str → Option Value} {base : Heap} {LK : Lk}
theorem fnW_ok {x qual : Str} {params : Arguments} {body : List Stmt} {scope : Scope} {dvs : List V} {kws : List (Str × V)} {f : Addr} {fd : FuncData} {N ps : List Str} {k : Nat} {C : Ctr} {ts : TDs} (F : FunD K x qual params body scope dvs kws f fd) (S : FnScope N ps scope)
    (hb : ∀ (cdv : Value) (A : Around) (outer : List Env) (s : Shared) (H : Hp) (E : XK), L2H.RoomH k (A.deeper (envOfC qual scope s.heap.objs.size f cdv)) → Ds (cxW P w K mg base N qual scope f cdv A outer s H E) LK (fun _ _ _ _ => False) body ts)
    (hc : ∀ args R RX, args.length = ps.length → C args R RX → ts (startD N args) { nx := fun _ => R (.d .none), rt := fun _ => R, xc := fun _ => RX }) : FnWk P w K mg base (k + 1) f fd ps (spD K LK ps.length fun args R RX => C args R RX ∧ ∀ x, ¬ RX x) := by
  obtain ⟨oc, od, dV, kV, doc, pm, an, cdv, ct, osl, rfl, lk, hcd, _, _⟩ := F.ex
  refine ⟨fun vs H Q E ⟨_, _, _, _, h, _⟩ => h, fun A outer s H args us vs Q hr e0 hbd r hsp => ?_⟩
  obtain ⟨L, svs, R, RX, hl, lkk, pa, ⟨hC, nx⟩, q, qx⟩ := hsp
  have KX : K.In s.heap := e0.mod.kin.keeps fun b o e => (e0.bs b o e).1
  have lim : s.heap.NoLimit := e0.mod.nolimit.keeps fun b o e => (e0.bs b o e).1
  have hkind : ∀ y ∈ ps.zip us, scope.names.lookup y.1 = some .local ∨ (scope.names.lookup y.1 = some .cell ∧ ((cellsFrom (s.heap.objs.size + 1) scope.names []).lookup y.1).isSome = true) := fun ⟨n, v⟩ hy =>
    (S.par n (List.of_mem_zip hy).1).imp id fun z => ⟨z, PySem.W.cellsFrom_some _ _ _ (.inl z)⟩
  refine codeAny_call_function hr.depth (KX _ _ lk) rfl S.co S.gen rfl (PySem.W.codeRec_of KX hcd) (hbd _ _ _ _ ?_)
  refine wpAny_newFunctionEnv_cells S.kind hkind fun env he s1 x => ?_
  subst he
  refine ⟨lim.keeps x.toInCall.keep, codeAny_func ?_⟩
  have eC : Env0 P w K mg base { A with handled := none } outer s H := ⟨e0.frames, e0.mod, e0.bs, e0.bsz, e0.funs, e0.frf, e0.hok, e0.bare⟩
  have I' : Inv (cxOf CXF P w K mg base N qual scope f cdv { A with handled := none } outer s H (fun _ _ _ => False)) [] (L2.start N vs) H s1 := inv_start S rfl eC hl r x
  have I : Inv (cxW P w K mg base N qual scope f cdv A outer s H (fun _ _ _ => False)) [] (L2.start N vs) H s1 :=
    ⟨⟨I'.ok.mod, I'.ok.kind, I'.ok.glob, I'.ok.blt, I'.ok.above, I'.ok.inj, I'.ok.has, I'.ok.cab, (fun z => nomatch z), Around.frames_deeper e0.frames, I'.ok.stk, I'.ok.exf, I'.ok.bs, I'.ok.bsz, I'.ok.noex, I'.ok.exfs, I'.ok.funs, I'.ok.frf⟩,
      I'.os, I'.bare, I'.base, I'.loc, I'.cell, I'.free, I'.freeC, I'.pin, I'.hok, I'.len⟩
  have hq : liftS K LK (fun _ _ _ _ => False) ts { nx := fun _ H' => Q .non H', rt := Q } (L2.start N vs) H :=
    ⟨gd1 L H, L, startD N svs, _, rel_start lkk pa, hc svs R RX ((paired_len pa).symm.trans hl) hC, ⟨fun δ' L' σ' H' h l rel => q _ _ L' H' h ⟨rel.gF.trans (fz_le _ _ _ _), l⟩ rel.lk Dp.non, fun _ _ _ _ h => h.elim, fun _ _ _ _ h => h.elim, fun sv v δ' L' σ' H' gk h l rel ok => q _ _ L' H' h ⟨rel.gF.trans (fz_le _ _ _ _), l⟩ rel.lk ok, fun x c d δ' L' σ' H' h l rel ex => nx x h⟩⟩
  refine wpAny_mono ((hb cdv A outer s H (fun _ _ _ => False) (hr.deeper _)).run [] s1 (L2.start N vs) H _ I hq) (fun fl s' hs => ?_) fun e s' hs => hs
  have fin : ∀ {σ' : L2.St} {H' : Hp} {v : V} {u : Value}, Inv (cxW P w K mg base N qual scope f cdv A outer s H (fun _ _ _ => False)) [] σ' H' s' → RelV v u → Q v H' → CE outer P w H s Q u s' := fun {σ' H' v u} J rv q => ⟨v, H', J.os, J.bare, J.base, J.hok, rv, q⟩
  cases fl with
  | ret u => exact let ⟨v, σ', H', J, rv, q⟩ := hs; fin J rv q
  | next => exact let ⟨σ', H', J, q⟩ := hs; fin (v := V.non) (u := Value.none) J rfl q
  | brk => exact let ⟨_, _, _, q⟩ := hs; False.elim q
  | cont => exact let ⟨_, _, _, q⟩ := hs; False.elim q
/-- a def of the text that may run so, by name -/
def HasW (P : Program) (w : World) (K : PySem.W.Frag) (mg : Str → Option Value) (base : Heap) (LK : Lk) (x : Str) (k : Nat) (ps : List Str) (C : Ctr) : Prop :=
  ∃ fd : FuncData, FnWk P w K mg base k (He.ga K x) fd ps (spD K LK ps.length fun args R RX => C args R RX ∧ ∀ x, ¬ RX x) ∧ Binds K fd ps [] ∧ mg x = some (.ref (He.ga K x)) ∧ PySem.W.keepIn K (.ref (He.ga K x)) = true
end
section
variable {X : Cx} {LK : Lk} {W : WX} {e : Expr} {es : List Expr} {pos p : Pos} {tas : TDa}
@[simp] def eCallW (n : Nat) (C : Ctr) (tas : TDa) : TDe := fun δ R RX => tas δ (fun svs => svs.length = n ∧ C (svs.map toArg) R (fun _ => False)) RX
theorem dx_callW {k n : Nat} {ps : List Str} {C : Ctr} {x : Str} (Fw : HasW X.prog X.w X.K X.mg X.base LK x k ps C) (hr : L2H.RoomH k X.A) (hg : Gl X x) (ha : DA X LK W fb (e :: es) tas) (hn : ps.length = n := by rfl) (hdb : (x == ("__debug__" : Str)) = false := by decide) (he : starEach (e :: es) X.env = (false, eval e X.env) :: starEach es X.env := by rfl)
    (hpl : (backTo pos (starEach es X.env)).any (·.1) = false := by rfl) : DX X LK W ff (.Call (.Name x p) (e :: es) [] pos) (eCallW n C tas) := by
  obtain ⟨fd, F, hb, hm, hk⟩ := Fw
  refine ⟨fun pins s σ H Q I h => ?_⟩
  obtain ⟨G, L, δ, R, RX, rel, r, q, qx⟩ := h
  refine wpAny_Call_Name_kw (ld_glob I hg hm ?_ hdb)
  refine PySem.W.callWith_K (h₀ := X.base) I.ok.mod.kin hk (thn (ha.run pos pins s σ H (fun vs H1 => ∃ svs L1, Step L H L1 H1 ∧ Rel X.K LK G L1 δ σ H1 ∧ ResA X.K G fb (hid L H) (fz L1 δ σ H1) (hid L1 H1) L1 vs svs ∧ svs.length = n ∧ C (svs.map toArg) R (fun _ => False)) I ?_) fun us s1 ⟨vs, H1, I1, rv, svs, L1, st1, rel1, res1, hl, hc⟩ => ⟨I1.kIn, ?_⟩) he hpl
  · exact ⟨G, L, δ, _, _, rel, r, fun svs vs L1 H1 hw st1 rel1 res1 => ⟨svs, L1, st1, rel1, res1, hw⟩, fun x c d L' H' hx st lk ex => qx x c d L' H' hx st lk ex⟩
  · have hlv : vs.length = ps.length := by rw [hn]; exact (paired_len res1).trans hl
    have hlu : us.length = ps.length := by rw [← rv.length]; exact hlv
    have b := hb s1 us I1.kIn (by rw [List.append_nil]; exact hlu)
    rw [List.append_nil] at b
    show wpAny _ _ (call _ us) _ _ _
    refine wpAny_call (codeAny_mono (F.run X.A X.stack s1 H1 ⟨us, []⟩ us vs Q hr I1.env0 b rv ⟨L1, svs.map toArg, R, fun _ => False, hlv, rel1.lk, paired_map (G := fun v sv => SvOk X.K (hid L1 H1) L1 v sv ∧ isData sv = true) (g := toArg) (fun v sv z => toArg_ok (z.b (fz_le _ _ _ _))) res1, ⟨hc, fun _ z => z⟩,
      fun sv v L2' H2 hR st2 lk ok => q sv v L2' H2 hR (st1.trans st2) (rel1.step st2 lk) ((new_res rel1 st2 ok).back st1), fun _ _ _ _ _ z => z.elim⟩) fun r s' hq => ?_)
    cases r with
    | error e => exact (show False from hq).elim
    | ok fl =>
      cases fl with
      | ret u => exact I1.after hq
      | next => exact False.elim hq
      | brk => exact False.elim hq
      | cont => exact False.elim hq
end
end DL

namespace DL
open PySem PySem.Spec PyProof.Rows L2
section
variable {X : Cx} {LK : Lk} {W : WX} {fl fa fb' : Fl} {es : List Expr} {pos : Pos} {ts : TDa}
/-- a list display that is used at once: its items may be lists -/
theorem dx_lstB (h : DA X LK W fb es ts) : DX X LK W fb (.List es pos) (eLst ts) :=
  pe_imp (pe_lst h) fun σ H Q ⟨G, L, δ, R, RX, rel, r, q, qx⟩ => ⟨G, L, δ, _, RX, rel, r, fun svs vs L' H' hx st rel' res => by
    unfold wDs at hx
    split at hx
    · rename_i ds e
      have d := asDs_ok e res
      refine ⟨by rw [dpA_len d]; exact Nat.le_trans hx.1 (by decide), fun p hp => ?_⟩
      have ns : Same (hid L' H') (hid L' (upd H' p (.lst vs))) := (rel'.stepNew hp).1
      refine q _ _ L' _ hx.2 (st.trans (rel'.stepNew hp)) (rel'.new hp) ⟨⟨p, vs, rfl, ?_, dpA_mono ns _ _ d⟩, fun z => nomatch z⟩
      show hid L' (upd H' p (.lst vs)) p = some (.lst vs)
      rw [hid_upd (rel'.loose hp)]
      exact upd_same
    · exact hx.elim, qx⟩
/-- .. a tuple display -/
theorem dx_tupB {z} (h : DA X LK W fb es ts) : DX X LK W fb (.Tuple es z pos) (eTup ts) :=
  pe_imp (pe_tup h) fun σ H Q ⟨G, L, δ, R, RX, rel, r, q, qx⟩ => ⟨G, L, δ, _, RX, rel, r, fun svs vs L' H' hx st rel' res => by
    unfold wDs at hx
    split at hx
    · rename_i ds e
      have d := asDs_ok e res
      refine ⟨by rw [dpA_len d]; exact Nat.le_trans hx.1 (by decide), fun p hp => ?_⟩
      have ns : Same (hid L' H') (hid L' (upd H' p (.tup vs))) := (rel'.stepNew hp).1
      refine q _ _ L' _ hx.2 (st.trans (rel'.stepNew hp)) (rel'.new hp) ⟨?_, fun z => nomatch z⟩
      refine Dp.tup (SqT.of ?_) (dpA_mono ns _ _ d)
      show hid L' (upd H' p (.tup vs)) p = some (.tup vs)
      rw [hid_upd (rel'.loose hp)]
      exact upd_same
    · exact hx.elim, qx⟩
end
end DL

namespace DL
open PySem PySem.Spec PyProof.Rows L2
/-! ## A set comprehension of two clauses without tests, of ints -/
abbrev Sc2 (elt t0 i0 t1 i1 : Expr) (scope : Scope) (pos : Pos) : Expr := .SetComp elt [⟨t0, i0, [], 0⟩, ⟨t1, i1, [], 0⟩] scope pos
section
variable {elt t0 i0 t1 i1 : Expr} {scope : Scope} {pos : Pos} {it acc : Value} {env : Env}
theorem sc2_turnA : compTurn (Sc2 elt t0 i0 t1 i1 scope pos) 0 it acc env =
    (standAt i0.pos >>= fun _ => pyNext it >>= fun r => match r with
      | none => pure (.done .next)
      | some v => letOwnedTupleGo t0 it v >>= fun _ => assign t0 env v >>= fun _ => eval i1 env >>= fun x => standAt i1.pos >>= fun _ => foldedSetIterable i1 env x >>= fun x =>
          holding [x] (pyIter x) >>= fun y => runOwn (.compStart (Sc2 elt t0 i0 t1 i1 scope pos) 1 y acc env) env >>= fun _ => again (.compLoop (Sc2 elt t0 i0 t1 i1 scope pos) 0 it acc env)) := by rfl
theorem sc2_turnB : compTurn (Sc2 elt t0 i0 t1 i1 scope pos) 1 it acc env =
    (standAt i1.pos >>= fun _ => pyNext it >>= fun r => match r with
      | none => pure (.done .next)
      | some v => letOwnedTupleGo t1 it v >>= fun _ => assign t1 env v >>= fun _ => (eval elt env >>= fun x => standAt elt.pos >>= fun _ => call (.builtin "set.add") [acc, x] >>= fun _ => pure PUnit.unit) >>= fun _ =>
          again (.compLoop (Sc2 elt t0 i0 t1 i1 scope pos) 1 it acc env)) := by rfl
variable {P : Program} {w : World} {A : Around} {R : Result → Shared → Prop} {s : Shared}
abbrev Nb (P : Program) (w : World) (A : Around) (env : Env) (R : Result → Shared → Prop) : Value → Shared → Prop := notedBy (model P w) A env fun e s' => R (.error e) s'
theorem sc2_loopA (hs : ∀ x, foldedSetIterable i1 env x = pure x) (J : Nat → Shared → Prop)
    (turn : ∀ n s, J n s → wpAny (model P w) A (pyNext it) (fun r s1 => match r with
      | none => R (.ok .next) s1
      | some v => wpAny (model P w) A (letOwnedTupleGo t0 it v) (fun _ s2 => wpAny (model P w) A (assign t0 env v) (fun _ s3 => wpAny (model P w) A (eval i1 env) (fun x s4 => wpAny (model P w) A (pyIter x)
          (fun y s5 => codeAny (model P w) A (.compStart (Sc2 elt t0 i0 t1 i1 scope pos) 1 y acc env) (fun r s' => match r with
            | .ok _ => ∃ m, m < n ∧ J m s'
            | .error _ => False) s5) (Nb P w A env R) s4) (Nb P w A env R) s3) (Nb P w A env R) s2) (Nb P w A env R) s1) (Nb P w A env R) s)
    (n : Nat) (h : J n s) : codeAny (model P w) A (.compLoop (Sc2 elt t0 i0 t1 i1 scope pos) 0 it acc env) R s := by
  refine codeAny_loop rfl J (fun n s hJ => ?_) n h
  show wpAny _ A ((compTurn (Sc2 elt t0 i0 t1 i1 scope pos) 0 it acc env).onRaise fun x => do noteFrame x env; theTreesLotGoes x) _ _ s
  refine wpAny_noted ?_
  rw [sc2_turnA]
  refine wpAny_bind (wpAny_standAt (wpAny_bind (wpAny_mono (turn n s hJ) (fun r s1 k1 => ?_) fun _ _ z => z)))
  cases r with
  | none => exact wpAny_pure k1
  | some v =>
    refine wpAny_bind (wpAny_mono k1 (fun _ s2 k2 => wpAny_bind (wpAny_mono k2 (fun _ s3 k3 => wpAny_bind (wpAny_mono k3 (fun x s4 k4 => ?_) fun _ _ z => z)) fun _ _ z => z)) fun _ _ z => z)
    refine wpAny_bind (wpAny_standAt (wpAny_bind (wpAny_of_eq (hs x) (wpAny_bind (wpAny_holding (wpAny_mono k4 (fun y s5 k5 => ?_) fun _ _ z => z))))))
    refine wpAny_bind (wpAny_runOwn ?_)
    rw [Around.mark_none]
    refine codeAny_mono k5 fun r s' hr => ?_
    cases r with
    | error e => exact hr.elim
    | ok f =>
      first
        | exact wpAny_bind (wpAny_pure (wpAny_pure ⟨rfl, hr⟩))
        | exact wpAny_pure ⟨rfl, hr⟩
theorem sc2_loopB (J : Nat → Shared → Prop)
    (turn : ∀ n s, J n s → wpAny (model P w) A (pyNext it) (fun r s1 => match r with
      | none => R (.ok .next) s1
      | some v => wpAny (model P w) A (letOwnedTupleGo t1 it v) (fun _ s2 => wpAny (model P w) A (assign t1 env v) (fun _ s3 => wpAny (model P w) A (eval elt env) (fun x s4 =>
          wpAny (model P w) A (call (.builtin "set.add") [acc, x]) (fun _ s5 => ∃ m, m < n ∧ J m s5) (Nb P w A env R) s4) (Nb P w A env R) s3) (Nb P w A env R) s2) (Nb P w A env R) s1) (Nb P w A env R) s)
    (n : Nat) (h : J n s) : codeAny (model P w) A (.compLoop (Sc2 elt t0 i0 t1 i1 scope pos) 1 it acc env) R s := by
  refine codeAny_loop rfl J (fun n s hJ => ?_) n h
  show wpAny _ A ((compTurn (Sc2 elt t0 i0 t1 i1 scope pos) 1 it acc env).onRaise fun x => do noteFrame x env; theTreesLotGoes x) _ _ s
  refine wpAny_noted ?_
  rw [sc2_turnB]
  refine wpAny_bind (wpAny_standAt (wpAny_bind (wpAny_mono (turn n s hJ) (fun r s1 k1 => ?_) fun _ _ z => z)))
  cases r with
  | none => exact wpAny_pure k1
  | some v =>
    refine wpAny_bind (wpAny_mono k1 (fun _ s2 k2 => wpAny_bind (wpAny_mono k2 (fun _ s3 k3 => wpAny_bind (wpAny_bind (wpAny_mono k3 (fun x s4 k4 => ?_) fun _ _ z => z))) fun _ _ z => z)) fun _ _ z => z)
    exact wpAny_bind (wpAny_standAt (wpAny_bind (wpAny_mono k4 (fun _ s5 k5 => wpAny_pure (wpAny_pure ⟨rfl, k5⟩)) fun _ _ z => z)))
theorem sc2_startB (h0 : codeAny (model P w) A (.compLoop (Sc2 elt t0 i0 t1 i1 scope pos) 1 it acc env) R s)
    (h : wpAny (model P w) A (pyIter it) (fun y s' => codeAny (model P w) A (.compLoop (Sc2 elt t0 i0 t1 i1 scope pos) 1 y acc env) R s') (Nb P w A env R) s) :
    codeAny (model P w) A (.compStart (Sc2 elt t0 i0 t1 i1 scope pos) 1 it acc env) R s := by
  refine codeAny_of_tree ?_
  show wpAny _ _ ((compStart (Sc2 elt t0 i0 t1 i1 scope pos) 1 it acc env).onRaise fun x => do noteFrame x env; standAt theWindowsPlace) _ _ s
  refine wpAny_notedAt ?_
  unfold compStart
  show wpAny _ _ (ask >>= _) _ _ s
  refine wpAny_bind (wpAny_askSetting (wpAny_ite ?_))
  split
  · first
      | exact wpAny_pure (And.intro rfl h0)
      | exact wpAny_bind (wpAny_pure (wpAny_pure (And.intro rfl h0)))
  · refine wpAny_bind (wpAny_rule ?_)
    show wpAny _ _ (standAt i1.pos >>= _) _ _ s
    exact wpAny_bind (wpAny_standAt (wpAny_bind (wpAny_mono h (fun y s' z => wpAny_pure (And.intro rfl z)) fun _ _ x => x)))
end
section
variable {X : Cx}
abbrev putS (w : World) (H : Hp) (D : Addr) (S : Int → Bool) (n : Nat) : Hp := upd H D (SetO w D S n)
abbrev putC (w : World) (H : Hp) (D : Addr) (S : Int → Bool) (n : Nat) (c : Int) : Hp := putS w H D (fun j => S j || decide (j = c)) (if S c = true then n else n + 1)
/-- set.add of an int -/
theorem sc_add {pins : List (Addr × Obj)} {σ : L2.St} {H : Hp} {s : Shared} {E : Value → Shared → Prop} {D : Addr} {S : Int → Bool} {n : Nat} {c : Int} {t : Tok} {Q : Value → Shared → Prop} (I : Inv X pins σ H s) (hD : H D = some (SetO X.w D S n)) (room : n + 1 < scanBound)
    (h : ∀ s', Inv X pins σ (putC X.w H D S n c) s' → Q .none s') : wpAny (model X.prog X.w) X.A (call (.builtin "set.add") [.ref D, .int c t]) Q E s := by
  refine setR_add (setO_get I hD) room fun h' sb new => ?_
  have ⟨o, _, _, _, ho, _⟩ := new
  refine h _ (I.write (e := D) (t' := s.toks + 1) ?_ (.inl rfl) (fun b u hb hu => (sb.2 b hb).trans hu) ⟨o, ho⟩ (setO_new new))
  rw [hD]; trivial
/-- the turns of the second clause -/
def tScB (w : World) (g1 : TG) (te : TE) (vs1 : List Nat) (D : Addr) (σ2 : L2.St) (Nx : Hp → Prop) (J1 : It) (H4 : Hp) : Prop :=
  ∃ W1 : Nat → Nat → Hp → Prop, (∃ k, W1 0 k H4) ∧ ∀ j k H, W1 j k H → (J1.stop j H ∧ Nx H) ∨ (J1.go j H ∧ ∃ Nx1 : Hp → Prop, (∀ H', Nx1 H' → ∃ k', k' < k ∧ W1 (j + 1) k' H') ∧
    ∀ x H', J1.yld j H x H' → g1 x (wipe σ2 vs1) H' fun σ3 H5 => wipe σ3 vs1 = wipe σ2 vs1 ∧ te σ3 H5 fun y H7 => ∃ (c : Int) (S : Int → Bool) (n : Nat), y = .int c ∧ H7 D = some (SetO w D S n) ∧ n + 1 < scanBound ∧ Nx1 (putC w H7 D S n c))
def tSc2 (w : World) (wi : TI) (g : TG) (wi1 : TI) (g1 : TG) (te : TE) (vs vs1 : List Nat) : TE := fun σ H Q => wi σ H fun J H1 => ∀ D, H1 D = none →
  ∃ W : Nat → Nat → Hp → Prop, (∃ m, W 0 m (putS w H1 D (fun _ => false) 0)) ∧ ∀ i m H, W i m H → (J.stop i H ∧ Q (.ref D) H) ∨ (J.go i H ∧ ∃ Nx : Hp → Prop, (∀ H', Nx H' → ∃ m', m' < m ∧ W (i + 1) m' H') ∧
    ∀ x H', J.yld i H x H' → g x (wipe σ vs) H' fun σ2 H2 => wipe σ2 vs = wipe σ vs ∧ wi1 σ2 H2 fun J1 H4 => tScB w g1 te vs1 D σ2 Nx J1 H4)
abbrev Blk (X : Cx) (scope : Scope) (s : Shared) (H : Hp) (C : Addr) (cl : List (PySem.Str × Addr)) (fp : List Addr) : Cx := X.blk s H scope (compEnvC scope cl C X.env) fp
theorem pe_sc2 {elt tg iter tg1 iter1 : Expr} {scope : Scope} {own : List (PySem.Str × Nat)} {vs1 : List Nat} {pos : Pos} {wi wi1 : TI} {g g1 : TG} {te : TE} (hc : X.calm = true) (hN : X.N.Nodup) (hi : PI X tg iter wi) (ok : BlkOk X.N X.env.scope scope own) (hv : ∀ i ∈ vs1, i ∈ own.map (·.2))
    (hg : ∀ s H C cl fp, PG (Blk X scope s H C cl fp) tg g) (hi1 : ∀ s H C cl fp, PI (Blk X scope s H C cl fp) tg1 iter1 wi1) (hg1 : ∀ s H C cl fp, PG (Blk X scope s H C cl fp) tg1 g1) (he : ∀ s H C cl fp, PE (Blk X scope s H C cl fp) elt te)
    (hs : ∀ x, foldedSetIterable iter X.env x = pure x := by intro _; rfl) (hs1 : ∀ env x, foldedSetIterable iter1 env x = pure x := by intro _ _; rfl) :
    PE X (Sc2 elt tg iter tg1 iter1 scope pos) (tSc2 X.w wi g wi1 g1 te (own.map (·.2)) vs1) := by
  refine ⟨fun pins s σ H Q I h => ?_⟩
  rw [show eval (Sc2 elt tg iter tg1 iter1 scope pos) X.env = _ from PpSet.eval_SetComp elt _ scope pos]
  have free : ∀ y ∈ scope.names, y.2 = .free → ∃ c, X.env.cells.lookup y.1 = some c := fun y hy e =>
    (ok.free y hy e).elim (fun k => I.ok.has _ (.inl k)) fun k => I.ok.has _ (.inr k)
  refine wpAny_comprehension_free (use := none) rfl hs (closure_ok free) ok.kind (fun y hy e => by rw [ok.uniq y hy, e]) (thn (hi.run pins s σ H _ I h) fun xv s1 hx => thn hx fun itv s2 h2 => ?_)
  obtain ⟨it, fp, tn, J, H2, rfl, I2, T, st2, f2, q⟩ := h2
  refine PpSet.newSet_ok (newEnv_comp ?_)
  generalize hD : s2.heap.objs.size = D
  obtain ⟨W, ⟨m0, w0⟩, turn⟩ := q D (I2.hok.fresh (Nat.le_of_eq hD))
  generalize hs3 : ({ s2 with heap := s2.heap.push { cls := .type "set", dict := none, data := .set #[] 0 (.fresh 0 0 (!X.w.params.followText "set-order")) } } : Shared) = s3
  have grown : ∀ b u, s2.heap.get? b = some u → s3.heap.get? b = some u := fun b u e => by rw [← hs3]; exact Heap.get?_push_of_some _ e
  have sized : s3.heap.objs.size = s2.heap.objs.size + 1 := by rw [← hs3]; exact Heap.size_push _ _
  have I3 : Inv X pins σ (putS X.w H2 D (fun _ => false) 0) s3 := by
    rw [← hs3, ← hD]
    exact I2.laid (t' := s2.toks) (fun b o e => Heap.get?_push_of_some _ e) (Nat.le_refl _) (setO_new (setR_fresh X.w))
  have f3 : ∀ b ∈ fp, FpOk X pins (putS X.w H2 D (fun _ => false) 0) b ∧ b < s3.heap.objs.size := fun b hb => by
    obtain ⟨o, e, _⟩ := T.obj _ _ st2 b hb
    have lt := Heap.lt_size e
    refine ⟨⟨?_, (f2 b hb).2⟩, by rw [sized]; exact Nat.lt_succ_of_lt lt⟩
    show upd H2 D _ b = none
    rw [upd_ne (by rw [← hD]; exact Nat.ne_of_lt lt)]
    exact (f2 b hb).1
  have st3 : tn 0 s3.heap := T.keep _ _ _ st2 fun b _ o e => grown b o e
  have I4 := block_start I3 ok hN f3
  generalize hH3 : putS X.w H2 D (fun _ => false) 0 = H3 at I3 I4 w0 f3
  generalize hcl : cellsFrom (s3.heap.objs.size + 1) scope.names (cloFrom X.env.cells scope.names []) = cl at I4
  have pg := hg s3 H3 s3.heap.objs.size cl fp
  have pi1 := hi1 s3 H3 s3.heap.objs.size cl fp
  have pg1 := hg1 s3 H3 s3.heap.objs.size cl fp
  have pe := he s3 H3 s3.heap.objs.size cl fp
  subst hcl
  unfold Blk at pg pi1 pg1 pe
  show codeAny _ _ (.compStart (Sc2 elt tg iter tg1 iter1 scope pos) 0 (.ref it) (.ref D) (compEnvC scope (cellsFrom (s3.heap.objs.size + 1) scope.names (cloFrom X.env.cells scope.names [])) s3.heap.objs.size X.env))
    (compPost (model X.prog X.w) X.A X.xe none _ (.ref D) s3.heap.objs.size) { s3 with heap := pushCells (s3.heap.push { cls := .type "dict", data := .dict #[] }) scope.names }
  generalize hce : compEnvC scope (cellsFrom (s3.heap.objs.size + 1) scope.names (cloFrom X.env.cells scope.names [])) s3.heap.objs.size X.env = ce at I4 pg pi1 pg1 pe ⊢
  have cL : ce.locals = s3.heap.objs.size := by rw [← hce]; rfl
  generalize hs4 : ({ s3 with heap := pushCells (s3.heap.push { cls := .type "dict", data := .dict #[] }) scope.names } : Shared) = s4 at I4 ⊢
  have st4 : tn 0 s4.heap := T.keep _ _ _ st3 fun b _ o e => by rw [← hs4]; exact pushCells_keeps _ _ _ _ (Heap.get?_push_of_some _ e)
  generalize hY : X.blk s3 H3 scope ce fp = Y at I4 pg pi1 pg1 pe
  have Yc : Y.calm = true := by rw [← hY]; exact hc
  have Yo : ∀ {σ' : L2.St} {H' : Hp} {s' : Shared}, Inv Y [] σ' H' s' → (∀ b ∈ fp, H' b = none) → ∀ b ∈ fp, FpOk Y [] H' b := by
    subst hY
    exact fun {σ' H' s'} I' hn b hb => ⟨hn b hb, (I'.ok.exf b hb).1, I'.ok.exfs b hb, .inl hb, fun x c e => (I'.ok.exf b hb).2 x c e, fun p hp => absurd (show p ∈ ([] : List (Addr × Obj)) ++ [] from hp) (by simp)⟩
  let At : Nat → Nat → Shared → Prop := fun i n s' => ∃ H', Inv Y [] (wipe σ (own.map (·.2))) H' s' ∧ tn i s'.heap ∧ (∀ b ∈ fp, H' b = none) ∧ W i n H'
  refine (fun loop => PpSet.codeAny_compStart_set loop (T.self X.A 0 _ _ _ st4 loop)) ?_
  · refine sc2_loopA (hs1 ce) (fun n s' => ∃ i, At i n s') ?_ m0 ⟨0, H3, I4, st4, fun b hb => (f3 b hb).1.1, w0⟩
    rintro n s5 ⟨i, H5, I5, st5, n5, w5⟩
    rcases turn i n H5 w5 with ⟨stop, qq⟩ | ⟨go, Nx, hNx, step⟩
    · subst hY
      refine thnF (T.done (X.blk s3 H3 scope ce fp) rfl rfl rfl hc i [] s5 _ H5 (fun _ _ => False) I5 (Yo I5 n5) st5 stop) fun r s6 ⟨hr, I6⟩ => ?_
      subst hr
      have nC : H5 s3.heap.objs.size = none := by rw [← cL]; exact I6.free
      obtain ⟨m, hn, _⟩ := I6.loc
      have hn' : s6.heap.Ns s3.heap.objs.size m := by rw [← cL]; exact hn
      have I7 : Inv X pins σ H5 s6 := I3.call' (ch := fp) I6.os I6.base I6.hok I6.bare fun b hb => ⟨(f3 b hb).1.2.2.2.1, (f3 b hb).1.2.1, (f3 b hb).1.2.2.2.2.1, (f3 b hb).1.2.2.2.2.2⟩
      refine ⟨m, hn', fun h'' sb => ?_⟩
      obtain ⟨f0, f1, f2, f3, f4, f5⟩ := I3.fpOk (Nat.le_refl _) nC
      exact ⟨.ref D, H5, I7.turned (t' := s6.toks) (fun b o hb e => (sb.2 b hb).trans e) f0 f1 f3 f4 f5, rfl, qq⟩
    · subst hY
      refine thnF (T.item (X.blk s3 H3 scope ce fp) rfl rfl rfl hc i [] s5 _ H5 (fun _ _ => False) I5 (Yo I5 n5) st5 go) fun r s6 ⟨u, hr, h6⟩ => ?_
      subst hr
      refine thnF h6 fun _ s7 ⟨x, H7, I7, r7, y7, st7, n7⟩ => ?_
      refine thnF (pg.run _ s7 _ H7 x u _ (I7.pinned (Yo I7 n7) (T.obj _ _ st7)) r7 (step x H7 y7)) fun _ s8 ⟨σ8, H8, I8, hw8, q8⟩ => ?_
      refine thnF (pi1.run _ s8 σ8 H8 _ I8 q8) fun xv s10 hx => thnF hx fun itv s11 h11 => ?_
      obtain ⟨it1, fp1, tn1, J1, H11, rfl, I11, T1, st11, f11, W1, ⟨k1, w1⟩, turn1⟩ := h11
      have back : ∀ {σ9 : L2.St} {s' : Shared} {H' : Hp}, Inv (X.blk s3 H3 scope ce fp) ([] ++ pinsAt fp s7.heap) σ9 H' s' → σ9.length = σ8.length → (∀ (j : Nat) v, (wipe σ (own.map (·.2)))[j]? = some (some v) → σ9[j]? = some (some v)) → Nx H' → ∃ m, m < n ∧ ∃ i, At i m s' := fun {σ9 s' H'} I' hl hk nx => by
        obtain ⟨m', hm, w'⟩ := hNx H' nx
        have pin : ∀ b ∈ fp, ∀ o, s7.heap.get? b = some o → s'.heap.get? b = some o ∧ H' b = none := fun b hb o e =>
          have z := I'.pin (b, o) (List.mem_append_right _ (List.mem_append_right _ (mem_pinsAt hb e)))
          ⟨z.1, z.2.1⟩
        refine ⟨m', hm, i + 1, H', (I'.unpinned (pins := [])).weak (by rw [hl, ← wipe_length σ8 (own.map (·.2)), hw8]) hk, T.keep _ _ _ st7 fun b hb o e => (pin b hb o e).1, fun b hb => ?_, w'⟩
        obtain ⟨o, e, _⟩ := T.obj _ _ st7 b hb
        exact (pin b hb o e).2
      have kept : ∀ (j : Nat) v, (wipe σ (own.map (·.2)))[j]? = some (some v) → (wipe σ8 vs1)[j]? = some (some v) := fun j v e => by
        rw [← hw8] at e
        obtain ⟨e1, e2⟩ := wipe_some e
        rw [wipe_out fun z => e2 (hv j z)]
        exact e1
      have F1 : ∀ {H' : Hp}, (∀ b ∈ fp1, H' b = none) → ∀ b ∈ fp1, FpOk (X.blk s3 H3 scope ce fp) ([] ++ pinsAt fp s7.heap) H' b := fun hn b hb => ⟨hn b hb, (f11 b hb).2⟩
      refine (fun loop1 => sc2_startB loop1 (T1.self X.A 0 _ _ _ st11 loop1)) ?_
      refine sc2_loopB (fun k s' => ∃ j H', Inv (X.blk s3 H3 scope ce fp) ([] ++ pinsAt fp s7.heap) (wipe σ8 vs1) H' s' ∧ tn1 j s'.heap ∧ (∀ b ∈ fp1, H' b = none) ∧ W1 j k H') ?_ k1
        ⟨0, H11, I11.weak (wipe_length _ _) (fun j v e => (wipe_some e).1), st11, fun b hb => (f11 b hb).1, w1⟩
      rintro k s12 ⟨j, H12, I12, st12, n12, w12⟩
      rcases turn1 j k H12 w12 with ⟨stop1, nx1⟩ | ⟨go1, Nx1, hNx1, step1⟩
      · refine thnF (T1.done (X.blk s3 H3 scope ce fp) rfl rfl rfl hc j _ s12 (wipe σ8 vs1) H12 (fun _ _ => False) I12 (F1 n12) st12 stop1) fun r s13 ⟨hr, I13⟩ => ?_
        subst hr
        exact back I13 (wipe_length σ8 vs1) kept nx1
      · refine thnF (T1.item (X.blk s3 H3 scope ce fp) rfl rfl rfl hc j _ s12 (wipe σ8 vs1) H12 (fun _ _ => False) I12 (F1 n12) st12 go1) fun r s13 ⟨u1, hr, h13⟩ => ?_
        subst hr
        refine thnF h13 fun _ s14 ⟨x1, H14, I14, r14, y14, st14, n14⟩ => ?_
        refine thnF (pg1.run _ s14 (wipe σ8 vs1) H14 x1 u1 _ (I14.pinned (F1 n14) (T1.obj _ _ st14)) r14 (step1 x1 H14 y14)) fun _ s15 ⟨σ15, H15, I15, hw15, q15⟩ => ?_
        refine thnF (pe.run _ s15 σ15 H15 _ I15 q15) fun z s17 ⟨yv, H17, I17, r17, c, S, m, ey, hD17, room, nx⟩ => ?_
        subst ey
        obtain ⟨tk, rfl⟩ := (show ∃ t, z = Value.int c t from r17)
        refine sc_add (X := X.blk s3 H3 scope ce fp) I17 hD17 room fun s18 I18 => ?_
        obtain ⟨k', hk, w'⟩ := hNx1 _ nx
        have pin : ∀ b ∈ fp1, ∀ o, s14.heap.get? b = some o → s18.heap.get? b = some o ∧ putC X.w H17 D S m c b = none := fun b hb o e =>
          have z := I18.pin (b, o) (List.mem_append_right _ (List.mem_append_right _ (mem_pinsAt hb e)))
          ⟨z.1, z.2.1⟩
        refine ⟨k', hk, j + 1, _, I18.unpinned.weak (by rw [← hw15, wipe_length]) (fun j v e => by rw [← hw15] at e; exact (wipe_some e).1), T1.keep _ _ _ st14 fun b hb o e => (pin b hb o e).1, fun b hb => ?_, w'⟩
        obtain ⟨o, e, _⟩ := T1.obj _ _ st14 b hb
        exact (pin b hb o e).2
end
end DL

namespace DL
open PySem PySem.Spec PyProof.Rows L2
/-! ## sorted of a set of ints made by two for, over plain data -/
def scI (te : TDe) (i1 : Nat) (δ : DS) : List Int → List Int → (List Int → Prop) → Prop
  | [], acc, R => R acc
  | k :: r, acc, R => te (δ.set i1 (some (.d (.int k)))) (fun sv => wI sv fun c => acc.length < 4000 ∧ scI te i1 δ r (acc ++ [c]) R) (fun _ => False)
def scT (x : PyData) (R : List Int → Prop) : Prop := match x with
  | .tuple ds => ∃ ks : List Int, ds = ks.map .int ∧ R ks
  | _ => False
def scO (te1 te : TDe) (i0 i1 : Nat) (vs1 : List Nat) (δ : DS) : List PyData → List Int → (List Int → Prop) → Prop
  | [], acc, R => R acc
  | d :: r, acc, R => nolist d = true ∧ te1 (δ.set i0 (some (.d d))) (fun sv => wD sv fun x => scT x fun ks => scI te i1 (wipeD (δ.set i0 (some (.d d))) vs1) ks acc fun acc' => scO te1 te i0 i1 vs1 δ r acc' R) (fun _ => False)
/-- what a sorted set of these ints is -/
def setR (acc : List Int) (R : List Int → Prop) : Prop := (∀ l : List Int, l.Nodup → (∀ k ∈ l, k ∈ acc) → l.length < 64) ∧ ∀ ns : List Int, ns.Pairwise (· < ·) → (∀ k, k ∈ ns ↔ k ∈ acc) → R ns
def scS (ti : TDi) (te1 te : TDe) (i0 i1 : Nat) (vs vs1 : List Nat) : TDe := fun δ R RX => ti δ (fun items => scO te1 te i0 i1 vs1 (wipeD δ vs) items [] fun acc => setR acc fun ns => R (.own (ns.map .int))) RX
/-- the set S of n ints has those of acc -/
structure CntS (S : Int → Bool) (n : Nat) (acc : List Int) : Prop where
  mem : ∀ k, S k = true ↔ k ∈ acc
  le : n ≤ acc.length
  lst : ∃ l : List Int, l.Nodup ∧ l.length = n ∧ ∀ k, k ∈ l ↔ k ∈ acc
theorem CntS.nil : CntS (fun _ => false) 0 [] := ⟨by simp, by simp, [], .nil, rfl, by simp⟩
theorem CntS.snoc {S : Int → Bool} {n : Nat} {acc : List Int} (h : CntS S n acc) (c : Int) : CntS (fun j => S j || decide (j = c)) (if S c = true then n else n + 1) (acc ++ [c]) := by
  obtain ⟨l, h1, h2, h3⟩ := h.lst
  have hl := h.le
  refine ⟨fun k => ?_, by simp; split <;> omega, ?_⟩
  · simp only [Bool.or_eq_true, decide_eq_true_eq, List.mem_append, List.mem_singleton, h.mem k]
  · by_cases hc : S c = true
    · refine ⟨l, h1, by rw [if_pos hc]; exact h2, fun k => ?_⟩
      have mc := (h.mem c).mp hc
      simp only [h3, List.mem_append, List.mem_singleton]
      exact ⟨.inl, fun z => z.elim id fun e => e ▸ mc⟩
    · have mc : c ∉ l := fun z => hc ((h.mem c).mpr ((h3 c).mp z))
      refine ⟨c :: l, List.nodup_cons.mpr ⟨mc, h1⟩, by rw [if_neg hc]; simp [h2], fun k => ?_⟩
      simp only [List.mem_cons, h3, List.mem_append, List.mem_singleton, List.not_mem_nil, or_false]
      exact Or.comm
/-- some heap has such a set -/
theorem heap_at : ∀ (D : Nat), ∃ h : Heap, h.objs.size = D
  | 0 => ⟨{ objs := #[] }, rfl⟩
  | D + 1 => let ⟨h, e⟩ := heap_at D; ⟨h.push { cls := .type "set", dict := none, data := .seq #[] }, by rw [Heap.size_push, e]⟩
theorem set_sat (w : World) (D : Addr) {S : Int → Bool} {n : Nat} {acc : List Int} (h : CntS S n acc) (hn : acc.length < 4096) : ∃ h o es ep t, SetR w h D S n ∧ h.get? D = some o ∧ o.data = Data.set es ep t := by
  obtain ⟨l, h1, h2, h3⟩ := h.lst
  obtain ⟨h0, e0⟩ := heap_at D
  let es0 : Array (Int × Value) := (l.map fun k => (hashInt k, Value.int k 0)).toArray
  let t0 : SetTable := .fresh 0 0 (!w.params.followText "set-order")
  have pm := relayAll_perm t0 es0 (SetTable.grown es0.size)
  have hf := relayAll_fits t0 es0 (SetTable.grown es0.size)
  have hr := relayAll_ris t0 es0 (SetTable.grown es0.size)
  have hl := relayAll_led t0 es0 (SetTable.grown es0.size)
  generalize relayAll t0 es0 (SetTable.grown es0.size) = Z at pm hf hr hl
  obtain ⟨es, t, g⟩ := Z
  dsimp only at pm hf hr hl
  have sz : es.size = n := by rw [← Array.length_toList, pm.length_eq]; simp [es0, h2]
  have sz0 : es0.size = n := by simp [es0, h2]
  have keys : (es.toList.map keyOf).Perm l := by
    refine (pm.map keyOf).trans ?_
    have : es0.toList.map keyOf = l := by
      simp only [es0, List.map_map]
      have : (keyOf ∘ fun k => (hashInt k, Value.int k 0)) = id := by funext k; rfl
      rw [this, List.map_id]
    rw [this]
  have got : (h0.push { cls := .type "set", dict := none, data := .set es 0 t }).get? D = some { cls := .type "set", dict := none, data := .set es 0 t } := by rw [← e0]; exact Heap.get?_push_size _ rfl
  refine ⟨_, _, es, 0, t, ⟨_, es, 0, t, got, ⟨rfl, rfl, rfl⟩, rfl, fun e he => ?_, keys.nodup_iff.mpr h1, fun k => ?_, ?_, ?_, sz, hr, ?_⟩, got, rfl⟩
  · obtain ⟨k, _, rfl⟩ : ∃ k ∈ l, (hashInt k, Value.int k 0) = e := by
      have := pm.mem_iff.mp he
      simpa [es0] using this
    exact ⟨k, 0, rfl, rfl⟩
  · rw [h.mem, ← h3, keys.mem_iff]
  · have := h.le
    rw [sz]; unfold scanBound; omega
  · exact hf
  · rw [hl]
    show _ ∨ (!w.params.followText "set-order") = true
    cases w.params.followText "set-order"
    · exact .inr rfl
    · exact .inl rfl
/-- all but D stays -/
def KeepD (D : Addr) (La : Ls) (Ha : Hp) (Lb : Ls) (Hb : Hp) : Prop := (∀ b o, b ≠ D → hid La Ha b = some o → hid Lb Hb b = some o) ∧ ∀ a, La a = true → Lb a = true
theorem KeepD.of {D : Addr} {La Lb : Ls} {Ha Hb : Hp} (s : Step La Ha Lb Hb) : KeepD D La Ha Lb Hb := ⟨fun b o _ h => s.1 b o h, s.2⟩
theorem KeepD.trans {D : Addr} {La Lb Lc : Ls} {Ha Hb Hc : Hp} (s : KeepD D La Ha Lb Hb) (t : KeepD D Lb Hb Lc Hc) : KeepD D La Ha Lc Hc := ⟨fun b o n h => t.1 b o n (s.1 b o n h), fun a h => t.2 a (s.2 a h)⟩
theorem KeepD.upd {D : Addr} {L : Ls} {H : Hp} {w : HO} (l : L D = false) (nt : tblB w = false) : KeepD D L H L (upd H D w) := ⟨fun b o n h => by rw [hid_upd l nt, upd_ne n]; exact h, fun _ z => z⟩
theorem KeepD.sq {K : PySem.W.Frag} {D : Addr} {La Lb : Ls} {Ha Hb : Hp} {φ : Heap → Prop} (s : KeepD D La Ha Lb Hb) (hD : hid La Ha D = some (.ext φ)) {a : Addr} {xs : List V} (h : SqT K (hid La Ha) a xs) : SqT K (hid Lb Hb) a xs := by
  rcases h with (h | ⟨o, h⟩) | h
  · exact .inl (.inl (s.1 _ _ (fun z => by rw [z, hD] at h; cases h) h))
  · exact .inl (.inr ⟨o, s.1 _ _ (fun z => by rw [z, hD] at h; cases h) h⟩)
  · exact .inr h
section
variable {X : Cx} {LK : Lk} {W : WX} {fa fa1 : Fl} {tg iter elt iter1 : Expr} {pos p : Pos} {te te1 : TDe}
theorem sc_words {ti : TDi} {i0 i1 : Nat} {vs vs1 : List Nat} (h0 : i0 ∈ vs) (h1 : i1 ∈ vs1) {σ : L2.St} {H : Hp} {Q : VK} (h : lift X.K LK W ff (scS ti te1 te i0 i1 vs vs1) σ H Q) :
    tCB (rSortedSet X.w) (tCons (tSc2 X.w (liftI X.K LK W false ti) (gName i0) (iSeq X.K (lift X.K LK WF fa1 te1)) (gName i1) (lift X.K LK WF fa te) vs vs1) tNil) σ H Q := by
  obtain ⟨G, L, δ, R, RX, rel, r, q, qx⟩ := h
  refine ⟨G, L, δ, _, RX, rel, r, fun items J L1 H1 hL st1 rel1 ok D hD => ?_, qx⟩
  rw [if_neg Bool.false_ne_true] at ok
  obtain ⟨og, os, oy⟩ := ok
  have nL1 : L1 D = false := rel1.loose hD
  have nN1 : hid L1 H1 D = none := hid_none hD
  -- D is changed, all else stays
  have chg : ∀ {L' : Ls} {H' : Hp} {S : Int → Bool} {n : Nat} {acc : List Int} {w' : HO}, tblB w' = false → CntS S n acc → acc.length < 4096 → Step L1 H1 L' H' → LkOk LK L' H' → hid L' H' D = some (SetO X.w D S n) → Step L1 H1 L' (upd H' D w') ∧ LkOk LK L' (upd H' D w') := fun {L' H' S n acc w'} nt cn ha st lk hw => by
    have l' := hid_nl hw
    have hD' := hid_le _ _ _ _ hw
    refine ⟨⟨fun b o hb => ?_, st.2⟩, fun b lb => ?_, ?_⟩
    · have hne : b ≠ D := fun z => by rw [z, nN1] at hb; cases hb
      rw [hid_upd l' nt, upd_ne hne]
      exact st.1 _ _ hb
    · obtain ⟨o, e1, e2⟩ := lk.1 b lb
      have hne : b ≠ D := fun z => by rw [z, l'] at lb; cases lb
      exact ⟨o, by rw [upd_ne hne]; exact e1, e2⟩
    · exact LK.chg H' D _ w' lk.2 hD' (set_sat X.w D cn ha)
  let At : Ls → Hp → List Int → Prop := fun L' H' acc => ∃ S n, Step L1 H1 L' H' ∧ LkOk LK L' H' ∧ L' D = false ∧ H' D = some (SetO X.w D S n) ∧ CntS S n acc ∧ acc.length < 4096
  refine ⟨fun i m H' => m = items.length - i ∧ i ≤ items.length ∧ ∃ L' acc, At L' H' acc ∧ scO te1 te i0 i1 vs1 (wipeD δ vs) (items.drop i) acc fun acc => setR acc fun ns => R (.own (ns.map .int)),
    ⟨items.length, by simp, Nat.zero_le _, L1, [], ⟨_, 0, rel1.stepNew hD, (rel1.new hD).lk, nL1, upd_same, CntS.nil, by simp⟩, by simpa using hL⟩, ?_⟩
  rintro i m H' ⟨rfl, hi, L', acc, ⟨S, n, st, lk, nL, hHD, cn, hal⟩, hl⟩
  have rel' : Rel X.K LK G L' δ σ H' := rel1.step st lk
  have sm : Same (hid L1 H1) H' := st.1.trans (hid_le _ _)
  have nD : hid L' H' D = some (SetO X.w D S n) := hid_of nL hHD rfl
  by_cases hlt : i < items.length
  · refine .inr ⟨og i H' sm hlt, fun H5 => ∃ L5 acc5, At L5 H5 acc5 ∧ scO te1 te i0 i1 vs1 (wipeD δ vs) (items.drop (i + 1)) acc5 fun acc => setR acc fun ns => R (.own (ns.map .int)), fun H5 h5 => ⟨_, by omega, rfl, hlt, h5⟩, fun x H2 hy => ?_⟩
    obtain ⟨d, hd, hx⟩ := oy i H' x H2 sm hlt hy
    have ed : items.drop i = d :: items.drop (i + 1) := by
      rw [List.drop_eq_getElem_cons hlt]
      rw [List.getElem?_eq_getElem hlt] at hd
      cases hd; rfl
    rw [ed] at hl
    obtain ⟨nold, hl⟩ := hl
    have turn : ∀ {H2 : Hp}, Step L' H' L' H2 → LkOk LK L' H2 → Dp X.K (fz L' δ σ H2) x d → gName i0 x (wipe σ vs) H2 fun σ2 H2' => wipe σ2 vs = wipe σ vs ∧ iSeq X.K (lift X.K LK WF fa1 te1) σ2 H2' fun J1 H4 =>
        tScB X.w (gName i1) (lift X.K LK WF fa te) vs1 D σ2 (fun H5 => ∃ L5 acc5, At L5 H5 acc5 ∧ scO te1 te i0 i1 vs1 (wipeD δ vs) (items.drop (i + 1)) acc5 fun acc => setR acc fun ns => R (.own (ns.map .int))) J1 H4 := fun {H2} st2 lk2 dx => by
      have nD2 : hid L' H2 D = some (SetO X.w D S n) := st2.1 _ _ nD
      have st12 := st.trans st2
      -- the slots with the walked item, in any heap that keeps all but D
      have slots : ∀ {L5 : Ls} {H5 : Hp}, Step L1 H1 L5 H5 → LkOk LK L5 H5 → KeepD D L' H2 L5 H5 → Rel X.K LK G L5 ((wipeD δ vs).set i0 (some (.d d))) ((wipe σ vs).set i0 (some x)) H5 := fun {L5 H5} s5 lk5 k5 => by
        have r5 := rel1.step s5 lk5
        have w5 := rel_wipe vs r5
        refine put_data w5 i0 (dp_nolist (fun b xs q => ?_) _ _ nold dx)
        have q1 : SqT X.K (hid L' H2) b xs := same_sqT (fz_le _ _ _ _) q
        exact w5.tupF (k5.sq nD2 q1)
      refine ⟨(wipe_set h0).trans (wipe_idem σ vs), ?_⟩
      have r2 := slots st12 lk2 (KeepD.of (Step.refl _ _))
      refine ⟨G, L', _, _, _, r2, hl, fun sv v1 L3 H3 hsv st3 rel3 res3 => ?_, fun _ _ _ _ _ z => z.elim⟩
      obtain ⟨xd, exd, hsv⟩ := wD_out hsv
      have dv := asD_ok exd (res3.b (fz_le _ _ _ _))
      cases xd <;> first | exact hsv.elim | skip
      obtain ⟨ks, rfl, hsv⟩ := hsv
      obtain ⟨p, vs2, rfl, sq, da⟩ := dp_tup dv
      have ev := dpA_ints da
      subst ev
      have nD3 : hid L3 H3 D = some (SetO X.w D S n) := st3.1 _ _ nD2
      have st13 := st12.trans st3
      refine .inr (.inl ⟨p, rfl, ⟨_, hid_sqT sq⟩, ?_⟩)
      refine ⟨fun j k H => k = ks.length - j ∧ j ≤ ks.length ∧ ∃ L5 acc5, At L5 H acc5 ∧ KeepD D L3 H3 L5 H ∧ scI te i1 (wipeD ((wipeD δ vs).set i0 (some (.d d))) vs1) (ks.drop j) acc5 fun acc' => scO te1 te i0 i1 vs1 (wipeD δ vs) (items.drop (i + 1)) acc' fun acc => setR acc fun ns => R (.own (ns.map .int)),
        ⟨ks.length, by simp, Nat.zero_le _, L3, acc, ⟨S, n, st13, rel3.lk, hid_nl nD3, hid_le _ _ _ _ nD3, cn, hal⟩, KeepD.of (Step.refl _ _), by simpa using hsv⟩, ?_⟩
      rintro j k H ⟨rfl, hj, L5, acc5, ⟨S5, n5, s5, lk5, l5, hD5, cn5, ha5⟩, k5, hI⟩
      have nD5 : hid L5 H D = some (SetO X.w D S5 n5) := hid_of l5 hD5 rfl
      have sq5 : SqT X.K H p (ks.map V.int) := hid_sqT (k5.sq nD3 sq)
      by_cases hjl : j < ks.length
      · refine .inr ⟨⟨_, .int ks[j], sq5, by simp [hjl]⟩, fun H6 => ∃ L6 acc6, At L6 H6 acc6 ∧ KeepD D L3 H3 L6 H6 ∧ scI te i1 (wipeD ((wipeD δ vs).set i0 (some (.d d))) vs1) (ks.drop (j + 1)) acc6 fun acc' => scO te1 te i0 i1 vs1 (wipeD δ vs) (items.drop (i + 1)) acc' fun acc => setR acc fun ns => R (.own (ns.map .int)),
          fun H6 h6 => ⟨_, by omega, rfl, hjl, h6⟩, fun y H6 hy6 => ?_⟩
        obtain ⟨rfl, hy6⟩ := hy6
        have ey : y = .int ks[j] := by
          have := hy6 _ sq5
          simp [hjl] at this
          exact this.symm
        subst ey
        rw [List.drop_eq_getElem_cons hjl] at hI
        refine ⟨(wipe_set h1).trans (wipe_idem _ vs1), ?_⟩
        have r5 := put_data (d := .int ks[j]) (v := .int ks[j]) (rel_wipe vs1 (slots s5 lk5 ((KeepD.of st3).trans k5))) i1 (.int _)
        refine ⟨G, L5, _, _, _, r5, hI, fun sv y7 L7 H7 hsv7 st7 rel7 res7 => ?_, fun _ _ _ _ _ z => z.elim⟩
        obtain ⟨c, rfl, rfl, ha7, hI7⟩ := wI_out hsv7 res7.1
        have nD7 : hid L7 H7 D = some (SetO X.w D S5 n5) := st7.1 _ _ nD5
        obtain ⟨s8, lk8⟩ := chg (w' := SetO X.w D (fun j => S5 j || decide (j = c)) (if S5 c = true then n5 else n5 + 1)) rfl cn5 ha5 (s5.trans st7) rel7.lk nD7
        have l7 := hid_nl nD7
        have hle := cn5.le
        refine ⟨c, S5, n5, rfl, hid_le _ _ _ _ nD7, by unfold scanBound; omega, L7, acc5 ++ [c], ⟨_, _, s8, lk8, l7, upd_same, cn5.snoc c, by simp; omega⟩, (k5.trans (KeepD.of st7)).trans (KeepD.upd l7 rfl), hI7⟩
      · have e : j = ks.length := by omega
        subst e
        rw [List.drop_length] at hI
        exact .inl ⟨⟨_, sq5, by simp⟩, L5, acc5, ⟨S5, n5, s5, lk5, l5, hD5, cn5, ha5⟩, hI⟩
    rcases hx with ⟨rfl, dx⟩ | ⟨pp, xs, ds, hp, rfl, rfl, rfl, da⟩
    · exact turn (Step.refl _ _) lk (dp_mono (fz_step st) _ _ dx)
    · have np := new_at rel' hp (o := .tup xs)
      exact turn (rel'.stepNew hp) (rel'.new hp).lk (Dp.tup (SqT.of (nw_le _ _ _ _ np)) (dpA_mono ((fz_step st).trans (fz_step (rel'.stepNew hp))) _ _ da))
  · have e : i = items.length := by omega
    subst e
    rw [List.drop_length] at hl
    obtain ⟨h64, hl⟩ := hl
    obtain ⟨l, l1, l2, l3⟩ := cn.lst
    refine .inl ⟨os _ H' sm rfl, D, S, n, rfl, hHD, by rw [← l2]; exact h64 l l1 fun k hk => (l3 k).mp hk, fun ns p hs hm hln hp => ?_⟩
    refine q _ _ L' _ (hl ns hs fun k => (hm k).trans (cn.mem k)) (st1.trans (st.trans (rel'.stepNew hp))) (rel'.new hp) (Res.back (res_new rel' hp ⟨p, _, rfl, new_at rel' hp, dpA_of_ints ns⟩) (st1.trans st))
end
end DL

namespace DL
open PySem PySem.Spec PyProof.Rows L2
section
variable {X : Cx} {LK : Lk} {W : WX} {fl fa fa1 fb' : Fl} {e e2 iter elt iter1 : Expr} {pos p q p0 p1 : Pos} {ta tb te te1 : TDe}
theorem pgn (i : Nat) {x : Str} (hN : X.N.Nodup) (hi : X.N[i]? = some x := by rfl) (hx : Loc X.env.scope x := by first | exact Or.inl rfl | exact Or.inr rfl) (hf : X.fn x = true ∨ X.env.scope.names.lookup x = some .local := by first | exact .inl rfl | exact .inr rfl) : PG X (.Name x pos) (gName i) := pg_name hN hi hx hf
/-- sorted({e for x0 in iter for x1 in iter1}), of ints -/
theorem dx_sortedSc2 {scope : Scope} {own : List (Str × Nat)} {vs1 : List Nat} {ti : TDi} {i0 i1 : Nat} {x0 x1 : Str} (hg : Gl X "sorted") (hm : X.mg "sorted" = none) (hN : X.N.Nodup) (hi : DI X LK W false (.Name x0 p0) iter ti) (ok : BlkOk X.N X.env.scope scope own)
    (g0 : ∀ s H C cl fp, PG (Blk X scope s H C cl fp) (.Name x0 p0) (gName i0)) (hi1 : ∀ s H C cl fp, DX (Blk X scope s H C cl fp) LK WF fa1 iter1 te1) (g1 : ∀ s H C cl fp, PG (Blk X scope s H C cl fp) (.Name x1 p1) (gName i1)) (he : ∀ s H C cl fp, DX (Blk X scope s H C cl fp) LK WF fa elt te)
    (hc : X.calm = true := by rfl) (h0 : i0 ∈ own.map (·.2) := by decide) (h1 : i1 ∈ vs1 := by decide) (hv : ∀ i ∈ vs1, i ∈ own.map (·.2) := by decide)
    (hs : ∀ x, foldedSetIterable iter X.env x = pure x := by intro _; rfl) (hs1 : ∀ env x, foldedSetIterable iter1 env x = pure x := by intro _ _; rfl)
    (ha : starEach [Sc2 elt (.Name x0 p0) iter (.Name x1 p1) iter1 scope q] X.env = (false, eval (Sc2 elt (.Name x0 p0) iter (.Name x1 p1) iter1 scope q) X.env) :: starEach [] X.env := by rfl) :
    DX X LK W ff (.Call (.Name "sorted" p) [Sc2 elt (.Name x0 p0) iter (.Name x1 p1) iter1 scope q] [] pos) (scS ti te1 te i0 i1 (own.map (·.2)) vs1) :=
  pe_imp (pe_callB (cr_sortedSet hc) hg hm (by decide +kernel) (pa_cons (pe_sc2 (wi1 := iSeq X.K (lift X.K LK WF fa1 te1)) (te := lift X.K LK WF fa te) hc hN hi ok hv g0 (fun s H C cl fp => pi_seq (hi1 s H C cl fp)) g1 he hs hs1) pa_nil ha) (by decide) (by decide) ha) fun σ H Q h => sc_words h0 h1 h
/-- len(set(t)), t a tuple of ints -/
def tLenSetT (K : PySem.W.Frag) (t : TE) : TE := fun σ H Q => t σ H fun x H1 => ∃ (l : Addr) (ns : List Int), x = .ref l ∧ SqT K H1 l (ns.map V.int) ∧ ns.length ≤ 4000 ∧ ∀ u : List Int, u.Nodup → (∀ k, k ∈ u ↔ k ∈ ns) → Q (.int (u.length : Nat)) H1
theorem pe_lenSetT {a : Expr} {t : TE} {p2 : Pos} (hg : Gl X "len") (hm : X.mg "len" = none) (hg2 : Gl X "set") (hm2 : X.mg "set" = none) (ha : PE X a t) (hc : X.calm = true)
    (na : starEach [a] X.env = (false, eval a X.env) :: starEach [] X.env) : PE X (.Call (.Name "len" p) [.Call (.Name "set" p2) [a] [] q] [] pos) (tLenSetT X.K t) := by
  constructor
  intro pins s σ H Q I h
  refine Call_ (ld_blt I hg hm boot_len (PyProof.Rows.callWith_builtin1 (PyProof.Rows.args_cons ?_ rfl) rfl rfl))
  refine Call_ (ld_blt I hg2 hm2 boot_set (PyProof.Rows.callWith_type1 (PyProof.Rows.args_cons (thn (ha.run pins s σ H _ I h) ?_) na) na rfl))
  rintro v s1 ⟨x, H1, I1, r1, l, ns, rfl, hq, hl, q1⟩
  refine PyProof.Rows.args_nil ?_
  cases r1
  obtain ⟨its, rv, pl, hz⟩ := I1.tuple hq
  refine call_set_tupI ns (I1.ok.hd hc) (show s1.heap.IsTuple l its.toArray from pl) (RZ.intsAre_vals (by simpa using rv)) (by unfold scanBound; omega) fun h' tk c R1 hcn k => ?_
  refine PyProof.Rows.args_nil ?_
  obtain ⟨o, es, ep, t, ho, hex, hd, g, nd, hm3, hb, hf, hn, _⟩ := R1
  have I2 : Inv X pins σ H1 { s1 with heap := h', toks := tk } := I1.kept fun b o e => k b o e
  have ln : (es.toList.map keyOf).length = c := by rw [List.length_map, Array.length_toList, hn]
  have q2 := q1 (es.toList.map keyOf) nd fun j => by rw [← hm3]; simp
  rw [ln] at q2
  exact call_len_set ho hex hd hf (by rw [hn]; omega) ⟨.int c, H1, I2.tok _, ⟨_, by rw [hn]⟩, q2⟩
@[simp] def eLenSet (ta : TDe) : TDe := fun δ R RX => ta δ (fun sv => wD sv fun x => match x with
  | .tuple ds => ∃ ns : List Int, ds = ns.map .int ∧ ns.length ≤ 4000 ∧ ∀ u : List Int, u.Nodup → (∀ k, k ∈ u ↔ k ∈ ns) → R (.d (.int (u.length : Nat)))
  | _ => False) RX
theorem dx_lenSet {p2 : Pos} (hg : Gl X "len") (hm : X.mg "len" = none) (hg2 : Gl X "set") (hm2 : X.mg "set" = none) (ha : DX X LK W fa e ta) (hc : X.calm = true := by rfl) (na : starEach [e] X.env = (false, eval e X.env) :: starEach [] X.env := by rfl) :
    DX X LK W ff (.Call (.Name "len" p) [.Call (.Name "set" p2) [e] [] q] [] pos) (eLenSet ta) :=
  pe_imp (pe_lenSetT hg hm hg2 hm2 ha hc na) fun σ H Q ⟨G, L, δ, R, RX, rel, r, k, kx⟩ => ⟨G, L, δ, _, RX, rel, r, fun sv v L' H' hx st rel' res => by
    obtain ⟨x, ex, hx⟩ := wD_out hx
    have dx := asD_ok ex (res.b (fz_le _ _ _ _))
    cases x <;> first | exact hx.elim | skip
    obtain ⟨ns, rfl, hl, hx⟩ := hx
    obtain ⟨l, vs, rfl, sq, da⟩ := dp_tup dx
    have ev := dpA_ints da
    subst ev
    exact ⟨l, ns, rfl, hid_sqT sq, hl, fun u h1 h2 => k _ _ L' H' (hx u h1 h2) st rel' (res_sc fun _ => Dp.int _)⟩, kx⟩
/-! zip of two tuples -/
def zipD : List PyData → List PyData → List PyData
  | a :: r, b :: s => .tuple [a, b] :: zipD r s
  | _, _ => []
theorem zip_len : ∀ (xs ys : List PyData), (zipD xs ys).length = min xs.length ys.length
  | [], _ => by simp [zipD]
  | _ :: _, [] => by simp [zipD]
  | a :: r, b :: s => by simp [zipD, zip_len r s]
theorem zip_get : ∀ {xs ys : List PyData} {i : Nat} {a b : PyData}, xs[i]? = some a → ys[i]? = some b → (zipD xs ys)[i]? = some (.tuple [a, b])
  | [], _, i, _, _, h, _ => by simp at h
  | _ :: _, [], i, _, _, _, h => by simp at h
  | x :: r, y :: s, 0, a, b, h1, h2 => by simp at h1 h2; subst h1; subst h2; rfl
  | x :: r, y :: s, i + 1, a, b, h1, h2 => by
    rw [zipD, List.getElem?_cons_succ]
    exact zip_get (by simpa using h1) (by simpa using h2)
def zipV (x y : SV) (R : List PyData → Prop) : Prop := wD x fun d => wD y fun e => match d, e with
  | .tuple xs, .tuple ys => R (zipD xs ys)
  | _, _ => False
@[simp] theorem zipV_tup (xs ys : List PyData) (R : List PyData → Prop) : zipV (.d (.tuple xs)) (.d (.tuple ys)) R = R (zipD xs ys) := rfl
@[simp] def iZipD (ta tb : TDe) : TDi := fun δ R RX => ta δ (fun x => tb δ (fun y => zipV x y R) RX) RX
theorem itOk_zip {K : PySem.W.Frag} {a b : Addr} {vs us : List V} {ds es : List PyData} {MS MI : Hp} (s : SqT K MS a vs) (d : DpAll K MI vs ds) (s2 : SqT K MS b us) (d2 : DpAll K MI us es) : ItOk K (zipD ds es) (RZ.ItzT K a b) MS MI := by
  have l1 := dpA_len d
  have l2 := dpA_len d2
  refine ⟨fun i H sm hi => ?_, fun i H sm hi => ⟨vs, us, same_sqT sm s, same_sqT sm s2, by rw [zip_len] at hi; omega⟩, fun i H x H' sm hi h => ?_⟩
  · rw [zip_len] at hi
    exact ⟨vs, us, vs[i]'(by omega), us[i]'(by omega), same_sqT sm s, same_sqT sm s2, by simp, by simp⟩
  · obtain ⟨T, x1, y1, rfl, n, rfl, h1, h2⟩ := h
    obtain ⟨d1, g1, k1⟩ := dpA_get d (h1 vs (same_sqT sm s))
    obtain ⟨e1, g2, k2⟩ := dpA_get d2 (h2 us (same_sqT sm s2))
    exact ⟨_, zip_get g1 g2, .inr ⟨T, _, _, n, rfl, rfl, rfl, .cons k1 (.cons k2 .nil)⟩⟩
theorem di_zip {kk : Nat} {tpos : Pos} {elts : List Expr} (o : Bool) (hg : Gl X "zip") (hm : X.mg "zip" = none) (he : DX X LK W fl e ta) (he2 : DX X LK W fa e2 tb) (ho : fl.o = true := by decide) (ho2 : fa.o = true := by decide) (hs : starEach [e, e2] X.env = (false, eval e X.env) :: starEach [e2] X.env := by rfl) (hs2 : starEach [e2] X.env = (false, eval e2 X.env) :: starEach [] X.env := by rfl) (hpl : (backTo pos (starEach [e2] X.env)).any (·.1) = false := by rfl) :
    DI X LK W o (.Tuple elts kk tpos) (.Call (.Name "zip" p) [e, e2] [] pos) (iZipD ta tb) :=
  pi_imp (RZ.pi_zipA hg hm (pa_cons he (pa_cons he2 pa_nil hs2) hs) hs hpl) fun σ H Q ⟨G, L, δ, R, RX, rel, r, k, kx⟩ => ⟨G, L, δ, _, RX, rel, r, fun sv v L1 H1 hx st1 rel1 res1 => ⟨G, L1, δ, _, RX, rel1, hx, fun sw u L2' H2 hy st2 rel2 res2 => by
    obtain ⟨x, ex, hy⟩ := wD_out hy
    obtain ⟨y, ey, hy⟩ := wD_out hy
    have r1 := res1.step st2
    have dx : Dp X.K (fz L2' δ σ H2) v x := dp_mono (pk_o ho) _ _ (asD_ok ex r1.1)
    have dy : Dp X.K (fz L2' δ σ H2) u y := dp_mono (pk_o ho2) _ _ (asD_ok ey res2.1)
    cases x <;> first | exact hy.elim | skip
    cases y <;> first | exact hy.elim | skip
    obtain ⟨a, vs, rfl, s1, d1⟩ := dp_tup dx
    obtain ⟨b, us, rfl, s2, d2⟩ := dp_tup dy
    have toH : Same (fz L2' δ σ H2) (hid L2' H2) := fz_le _ _ _ _
    refine ⟨a, b, vs, us, rfl, .inr ⟨hid_sqT (same_sqT toH s1), hid_sqT (same_sqT toH s2), k _ _ L2' H2 hy (st1.trans st2) rel2 ?_⟩⟩
    cases o with
    | true => exact itOk_zip s1 d1 s2 d2
    | false => exact itOk_zip (same_sqT toH s1) d1 (same_sqT toH s2) d2, fun x c d L' H' h st lk ex => kx x c d L' H' h (st1.trans st) lk ex⟩, kx⟩
end
end DL

namespace DL
open PySem PySem.Spec PyProof.Rows L2
/-- of a borrowed thing -/
abbrev fo : Fl := ⟨true, false, true⟩
@[simp] theorem storeV_fo (x : PyData) (k : SV → Prop) : storeV fo (.d x) k = k (.d x) := by simp [storeV]
section
variable {X : Cx} {LK : Lk} {W : WX} {fl fa fb' : Fl} {es : List Expr} {pos : Pos} {ts : TDa}
/-- a list display of borrowed things -/
theorem dx_lstS (h : DA X LK W fs es ts) : DX X LK W fs (.List es pos) (eLst ts) :=
  pe_imp (pe_lst h) fun σ H Q ⟨G, L, δ, R, RX, rel, r, q, qx⟩ => ⟨G, L, δ, _, RX, rel, r, fun svs vs L' H' hx st rel' res => by
    unfold wDs at hx
    split at hx
    · rename_i ds e
      have d := asDs_ok e res
      refine ⟨by rw [dpA_len d]; exact Nat.le_trans hx.1 (by decide), fun p hp => ?_⟩
      have ns : Same (fz L' δ σ H') (fz L' δ σ (upd H' p (.lst vs))) := fz_step (rel'.stepNew hp)
      refine q _ _ L' _ hx.2 (st.trans (rel'.stepNew hp)) (rel'.new hp) ⟨⟨p, vs, rfl, ?_, dpA_mono ns _ _ d⟩, fun z => nomatch z⟩
      exact nw_le _ _ _ _ (new_at rel' hp)
    · exact hx.elim, qx⟩
end
end DL

namespace DL
open PySem PySem.Spec PyProof.Rows L2
@[simp] theorem svAt_zero (s : SV) (r : DS) (R : SV → Prop) : svAt (some s :: r) 0 R = R s := rfl
@[simp] theorem svAt_succ (o : Option SV) (r : DS) (n : Nat) (R : SV → Prop) : svAt (o :: r) (n + 1) R = svAt r n R := by simp [svAt]
@[simp] theorem retV_true (sv : SV) (R : SV → Prop) : retV true sv R = R sv := by simp [retV]
@[simp] theorem retV_false (x : PyData) (R : SV → Prop) : retV false (.d x) R = (nolist x = true ∧ R (.d x)) := by simp [retV, nolS]
@[simp] theorem storeV_fb (x : PyData) (k : SV → Prop) : storeV fb (.d x) k = (nolist x = true ∧ k (.d x)) := by simp [storeV]
@[simp] theorem nolist_int (i : Int) : nolist (.int i) = true := rfl
@[simp] theorem nolist_bool (i : Bool) : nolist (.bool i) = true := rfl
@[simp] theorem nolist_str (i : Str) : nolist (.str i) = true := rfl
@[simp] theorem nolist_none : nolist .none = true := rfl
@[simp] theorem nolist_tup (xs : List PyData) : nolist (.tuple xs) = nolistA xs := rfl
@[simp] theorem nolistA_nil : nolistA [] = true := rfl
@[simp] theorem nolistA_cons (x : PyData) (xs : List PyData) : nolistA (x :: xs) = (nolist x && nolistA xs) := rfl
theorem startD_eq (N : List Str) (args : List SV) : startD N args = args.map some ++ List.replicate (N.length - args.length) none := rfl
@[simp] theorem eqD_int (i j : Int) (R : SV → Prop) : eqD (.int i) (.int j) R = R (.d (.bool (decide (i = j)))) := by
  have : PyData.eqv (.int i) (.int j) = decide (i = j) := by rw [PyData.eqv]; exact (Bool.beq_eq_decide_eq i j)
  simp [eqD, eqOk, scalD, this]
@[simp] theorem neD_int (i j : Int) (R : SV → Prop) : neD (.int i) (.int j) R = R (.d (.bool (!decide (i = j)))) := by
  have : PyData.eqv (.int i) (.int j) = decide (i = j) := by rw [PyData.eqv]; exact (Bool.beq_eq_decide_eq i j)
  simp [neD, eqOk, scalD, this]
theorem str_beq (i j : Str) : (i == j) = decide (i = j) := by
  by_cases h : i = j
  · subst h; simp
  · simp [h]
@[simp] theorem eqD_str (i j : Str) (R : SV → Prop) : eqD (.str i) (.str j) R = R (.d (.bool (decide (i = j)))) := by
  have : PyData.eqv (.str i) (.str j) = decide (i = j) := by rw [PyData.eqv]; exact str_beq i j
  simp [eqD, eqOk, scalD, this]
@[simp] theorem neD_str (i j : Str) (R : SV → Prop) : neD (.str i) (.str j) R = R (.d (.bool (!decide (i = j)))) := by
  have : PyData.eqv (.str i) (.str j) = decide (i = j) := by rw [PyData.eqv]; exact str_beq i j
  simp [neD, eqOk, scalD, this]
theorem inD_tup (neg : Bool) (x : PyData) (ds : List PyData) (R : SV → Prop) : inD neg x (.tuple ds) R = (inOk x ds ∧ R (.d (.bool (if neg then !anyEq x ds else anyEq x ds)))) := by cases x <;> rfl
theorem inD_lst (neg : Bool) (x : PyData) (ds : List PyData) (R : SV → Prop) : inD neg x (.list ds) R = ((inOk x ds ∨ inOkD x ds) ∧ R (.d (.bool (if neg then !anyEq x ds else anyEq x ds)))) := by cases x <;> rfl
@[simp] theorem inD_chr (neg : Bool) (c : Nat) (t : Str) (R : SV → Prop) : inD neg (.str ⟨#[c]⟩) (.str t) R = R (.d (.bool (if neg then !decide (c ∈ t.cps.toList) else decide (c ∈ t.cps.toList)))) := by
  simp [inD]
theorem anyEq_strs (w : Str) (l : List Str) : anyEq (.str w) (l.map .str) = decide (w ∈ l) := by
  induction l with
  | nil => rfl
  | cons a r ih =>
    have e : PyData.eqv (.str a) (.str w) = decide (w = a) := by
      rw [PyData.eqv]
      have := str_beq a w
      rw [this]
      by_cases h : a = w
      · subst h; simp
      · simp [h, Ne.symm h]
    unfold anyEq at ih ⊢
    rw [List.map_cons, List.any_cons, ih, e]
    by_cases h : w = a <;> simp [h]
theorem inOk_strs (w : Str) (l : List Str) : inOk (.str w) (l.map .str) := by
  refine ⟨rfl, ?_⟩
  simp [List.all_map, flatD]
/-- a text among texts -/
theorem inD_strs (neg : Bool) (w : Str) (l : List Str) (R : SV → Prop) : inD neg (.str w) (.tuple (l.map .str)) R = R (.d (.bool (if neg then !decide (w ∈ l) else decide (w ∈ l)))) := by
  rw [inD_tup, anyEq_strs]
  simp [inOk_strs]
theorem inD_strsL (neg : Bool) (w : Str) (l : List Str) (R : SV → Prop) : inD neg (.str w) (.list (l.map .str)) R = R (.d (.bool (if neg then !decide (w ∈ l) else decide (w ∈ l)))) := by
  rw [inD_lst, anyEq_strs]
  simp [inOk_strs]
def isTupD : PyData → Bool
  | .tuple _ => true
  | _ => false
def isStrD : PyData → Bool
  | .str _ => true
  | _ => false
def isIntD : PyData → Bool
  | .int _ => true
  | _ => false
def okD : PyData → Bool
  | .dict _ => false
  | _ => true
def inRD (x : PyData) (lo hi : Int) : Bool := match x with
  | .int i => decide (lo ≤ i) && decide (i ≤ hi)
  | _ => false
@[simp] theorem isD_d (x : PyData) : isD (.d x) = okD x := by cases x <;> rfl
@[simp] theorem isTupS_d (x : PyData) : isTupS (.d x) = isTupD x := by cases x <;> rfl
@[simp] theorem isStrS_d (x : PyData) : isStrS (.d x) = isStrD x := by cases x <;> rfl
@[simp] theorem okD_tup (x : List PyData) : okD (.tuple x) = true := rfl
@[simp] theorem okD_str (x : Str) : okD (.str x) = true := rfl
@[simp] theorem okD_int (x : Int) : okD (.int x) = true := rfl
@[simp] theorem okD_bool (x : Bool) : okD (.bool x) = true := rfl
@[simp] theorem okD_none : okD .none = true := rfl
@[simp] theorem okD_lst (x : List PyData) : okD (.list x) = true := rfl
@[simp] theorem isTupD_tup (x : List PyData) : isTupD (.tuple x) = true := rfl
@[simp] theorem isStrD_str (x : Str) : isStrD (.str x) = true := rfl
theorem okD_nol {x : PyData} (h : nolist x = true) : okD x = true := by cases x <;> simp [nolist, okD] at h ⊢
theorem gT_tup (n : Nat) (gs : TDgs) (ds : List PyData) (δ : DS) (R : DS → Prop) : gT n gs (.tuple ds) δ R = (ds.length = n ∧ gs ds δ R) := rfl
@[simp] theorem gT_3 (a b c : PyData) (i j k : Nat) (δ : DS) (R : DS → Prop) : gT 3 (gsCons (gN i) (gsCons (gN j) (gsCons (gN k) gsNil))) (.tuple [a, b, c]) δ R = R (((δ.set i (some (.d a))).set j (some (.d b))).set k (some (.d c))) := by simp [gT, gsCons, gN, gsNil]
@[simp] theorem gT_2 (a b : PyData) (i j : Nat) (δ : DS) (R : DS → Prop) : gT 2 (gsCons (gN i) (gsCons (gN j) gsNil)) (.tuple [a, b]) δ R = R ((δ.set i (some (.d a))).set j (some (.d b))) := by simp [gT, gsCons, gN, gsNil]
def pairsFrom : Nat → List PyData → List PyData
  | _, [] => []
  | k, d :: r => .tuple [.int (k : Nat), d] :: pairsFrom (k + 1) r
theorem pairsFrom_get : ∀ (ds : List PyData) (k i : Nat), (pairsFrom k ds)[i]? = (ds[i]?).map fun d => .tuple [.int ((k + i : Nat) : Int), d]
  | [], k, i => by simp [pairsFrom]
  | d :: r, k, 0 => by simp [pairsFrom]
  | d :: r, k, i + 1 => by
    rw [pairsFrom, List.getElem?_cons_succ, List.getElem?_cons_succ, pairsFrom_get r (k + 1) i]
    congr 1
    funext d
    have : k + 1 + i = k + (i + 1) := by omega
    rw [this]
theorem pairsD_eq (ds : List PyData) : pairsD ds = pairsFrom 0 ds := by
  apply List.ext_getElem?
  intro i
  rw [pairsFrom_get]
  cases h : ds[i]? with
  | none =>
    have hi : ds.length ≤ i := List.getElem?_eq_none_iff.mp h
    exact List.getElem?_eq_none_iff.mpr (by rw [pairs_len]; exact hi)
  | some d =>
    rw [pairs_get h]
    simp
@[simp] theorem ixV_tup (ds : List PyData) (i : Int) (R : SV → Prop) : ixV (.d (.tuple ds)) (.d (.int i)) R = (match atI ds i with | some z => R (.d z) | none => False) := rfl
@[simp] theorem ixV_lst (ds : List PyData) (i : Int) (R : SV → Prop) : ixV (.d (.list ds)) (.d (.int i)) R = (match atI ds i with | some z => R (.d z) | none => False) := rfl
@[simp] theorem ixV_own (ds : List PyData) (i : Int) (R : SV → Prop) : ixV (.own ds) (.d (.int i)) R = (match atI ds i with | some z => R (.d z) | none => False) := rfl
@[simp] theorem ixV_str (s : Str) (i : Int) (R : SV → Prop) : ixV (.d (.str s)) (.d (.int i)) R = (s.length ≤ sizeLine ∧ (match atI s.cps.toList i with | some z => R (.d (.str ⟨#[z]⟩)) | none => False)) := rfl
@[simp] theorem atI_0 {α : Type} (x : α) (r : List α) : atI (x :: r) 0 = some x := by simp [atI, ixN]
@[simp] theorem forL_nil (g : TDg) (t : TDs) (δ : DS) (E : EndsD) : forL g t [] δ E = E.nx δ := rfl
theorem forL_cons (g : TDg) (t : TDs) (d : PyData) (r : List PyData) (δ : DS) (E : EndsD) : forL g t (d :: r) δ E = g d δ fun δ1 => t δ1 { nx := fun δ2 => forL g t r δ2 E, rt := E.rt, xc := E.xc, bk := E.nx, ct := fun δ2 => forL g t r δ2 E } := rfl
@[simp] theorem wDs_ds (svs : List SV) (R : List PyData → Prop) : wDs svs R = (match asDs svs with | some ds => ds.length ≤ 64 ∧ R ds | none => False) := rfl
@[simp] theorem nolS_d (x : PyData) : nolS (.d x) = (nolist x = true) := rfl
@[simp] theorem nolS_tok : nolS .tok = True := rfl
@[simp] theorem asDs_nil : asDs [] = some [] := rfl
@[simp] theorem asDs_d (x : PyData) (r : List SV) : asDs (.d x :: r) = (asDs r).map (x :: ·) := by
  have e : asDs (.d x :: r) = (match asD (.d x), asDs r with | some d, some ds => some (d :: ds) | _, _ => none) := rfl
  rw [e]
  cases asDs r <;> rfl
@[simp] theorem asDs_own (x : List PyData) (r : List SV) : asDs (.own x :: r) = (asDs r).map (.list x :: ·) := by
  have e : asDs (.own x :: r) = (match asD (.own x), asDs r with | some d, some ds => some (d :: ds) | _, _ => none) := rfl
  rw [e]
  cases asDs r <;> rfl
@[simp] theorem isData_d (x : PyData) : isData (.d x) = true := rfl
@[simp] theorem isData_tok : isData .tok = true := rfl
@[simp] theorem isOwn_own (x : List PyData) : isOwn (.own x) = true := rfl
@[simp] theorem isOwn_tk (b : Addr) (x : List PyData) : isOwn (.tk b x) = true := rfl
@[simp] theorem isOwn_d (x : PyData) : isOwn (.d x) = false := rfl
/-- a comprehension whose turns are plain -/
theorem lcL_ok {g : TDg} {tt : TDt} {te : TDe} {δ : DS} (f : PyData → Option PyData) : ∀ (items acc : List PyData) (R : List PyData → Prop),
    (∀ d ∈ items, ∀ (k1 : PyData → Prop) (k0 : Prop), (match f d with | some x => k1 x | none => k0) → g d δ fun δ1 => tt δ1 (fun b => if b = true then te δ1 (fun sv => itemV sv k1) (fun _ => False) else k0) (fun _ => False)) → R (acc ++ items.filterMap f) → lcL g tt te δ items acc R
  | [], acc, R, _, h => by have h' : R acc := by simpa using h
                           exact h'
  | d :: r, acc, R, hs, h => by
    refine hs d (by simp) _ _ ?_
    cases e : f d with
    | none => exact lcL_ok f r acc R (fun d hd => hs d (by simp [hd])) (by simpa [e] using h)
    | some x => exact lcL_ok f r (acc ++ [x]) R (fun d hd => hs d (by simp [hd])) (by simpa [e] using h)
theorem lcL_map {g : TDg} {tt : TDt} {te : TDe} {δ : DS} (f : PyData → PyData) (items acc : List PyData) (R : List PyData → Prop)
    (hs : ∀ d ∈ items, ∀ (k1 : PyData → Prop) (k0 : Prop), k1 (f d) → g d δ fun δ1 => tt δ1 (fun b => if b = true then te δ1 (fun sv => itemV sv k1) (fun _ => False) else k0) (fun _ => False)) (h : R (acc ++ items.map f)) : lcL g tt te δ items acc R :=
  lcL_ok (fun d => some (f d)) items acc R hs (by simpa using h)
@[simp] theorem gN_at (i : Nat) (d : PyData) (δ : DS) (R : DS → Prop) : gN i d δ R = R (δ.set i (some (.d d))) := rfl
def numS (i : Int) : Str := Str.ofString (toString i)
@[simp high] theorem strD_num (i : Int) (R : SV → Prop) : strD (.int i) R = (i.natAbs.log2 < 1920 ∧ R (.d (.str (numS i)))) := rfl
theorem tab400 : ∀ n : Fin 401, (numS ((n.val : Nat) : Int)).length ≤ 3 := by decide +kernel
theorem numS_len {i : Int} (h0 : 0 ≤ i) (h1 : i ≤ 400) : (numS i).length ≤ 3 := by
  have := tab400 ⟨i.toNat, by omega⟩
  rwa [show (((⟨i.toNat, by omega⟩ : Fin 401).val : Nat) : Int) = i by simp; omega] at this
theorem log2_small {i : Int} (h0 : 0 ≤ i) (h1 : i ≤ 400) : i.natAbs.log2 < 1920 := by
  have : i.natAbs ≤ 400 := by omega
  have h2 : i.natAbs.log2 ≤ i.natAbs := Nat.log2_le_self _
  omega
theorem line_big : 1000 ≤ sizeLine := by decide
end DL

namespace N49
/-! ## Plain mathematics of log texts: lists of codes -/
def isDig (c : Nat) : Bool := decide (48 ≤ c ∧ c ≤ 57)
/-- the digits of a number -/
def nd (i : Nat) : List Nat := if h : i < 10 then [48 + i] else nd (i / 10) ++ [48 + i % 10]
termination_by i
decreasing_by omega
theorem nd_lt {i : Nat} (h : i < 10) : nd i = [48 + i] := by rw [nd]; simp [h]
theorem nd_ge {i : Nat} (h : 10 ≤ i) : nd i = nd (i / 10) ++ [48 + i % 10] := by
  conv => lhs; rw [nd]
  have : ¬ i < 10 := by omega
  simp [this]
theorem nd_ne (i : Nat) : nd i ≠ [] := by
  by_cases h : i < 10
  · rw [nd_lt h]; simp
  · rw [nd_ge (by omega)]; simp
theorem nd_dig : ∀ (n i : Nat), i ≤ n → ∀ c ∈ nd i, isDig c = true
  | n, i, hn, c, hc => by
    by_cases h : i < 10
    · rw [nd_lt h] at hc
      simp at hc
      subst hc
      simp [isDig]; omega
    · rw [nd_ge (by omega)] at hc
      rcases List.mem_append.mp hc with hc | hc
      · cases n with
        | zero => omega
        | succ n => exact nd_dig n (i / 10) (by omega) c hc
      · simp at hc
        subst hc
        simp [isDig]; omega
theorem nd_digs {i c : Nat} (h : c ∈ nd i) : isDig c = true := nd_dig i i (Nat.le_refl _) c h
def val (l : List Nat) : Nat := l.foldl (fun v c => v * 10 + (c - 48)) 0
theorem val_nd : ∀ (n i : Nat), i ≤ n → val (nd i) = i
  | n, i, hn => by
    by_cases h : i < 10
    · rw [nd_lt h]; simp [val]
    · rw [nd_ge (by omega)]
      have : val (nd (i / 10)) = i / 10 := by
        cases n with
        | zero => omega
        | succ n => exact val_nd n (i / 10) (by omega)
      unfold val at this ⊢
      rw [List.foldl_append, this]
      simp; omega
theorem nd_inj {a b : Nat} (h : nd a = nd b) : a = b := by
  rw [← val_nd a a (Nat.le_refl _), ← val_nd b b (Nat.le_refl _), h]
/-- what a number's digits begin with -/
theorem nd_prefix : ∀ (n m : Nat), m ≤ n → ∀ {s : List Nat}, s ≠ [] → s <+: nd m → ∃ j, s = nd (m / 10 ^ j) ∧ (j = 0 ∨ 1 ≤ m / 10 ^ j)
  | n, m, hn, s, hs, hp => by
    by_cases h : m < 10
    · rw [nd_lt h] at hp
      refine ⟨0, ?_, .inl rfl⟩
      simp
      rw [nd_lt h]
      rcases s with _ | ⟨c, r⟩
      · exact absurd rfl hs
      · obtain ⟨t, e⟩ := hp
        simp at e
        simp [e.1, e.2.1]
    · rw [nd_ge (by omega)] at hp
      by_cases hl : s.length ≤ (nd (m / 10)).length
      · have : s <+: nd (m / 10) := List.prefix_of_prefix_length_le hp (List.prefix_append _ _) hl
        cases n with
        | zero => omega
        | succ n =>
          obtain ⟨j, e, hj⟩ := nd_prefix n (m / 10) (by omega) hs this
          refine ⟨j + 1, ?_, .inr ?_⟩
          · rw [e, Nat.pow_succ, Nat.mul_comm, Nat.div_div_eq_div_mul]
          · rw [Nat.pow_succ, Nat.mul_comm, ← Nat.div_div_eq_div_mul]
            rcases hj with rfl | hj
            · simp; omega
            · exact hj
      · refine ⟨0, ?_, .inl rfl⟩
        simp
        rw [nd_ge (by omega)]
        exact hp.eq_of_length_le (by simp; omega)
theorem nd_prefix_of : ∀ (j m : Nat), (j = 0 ∨ 1 ≤ m / 10 ^ j) → nd (m / 10 ^ j) <+: nd m
  | 0, m, _ => by simp
  | j + 1, m, h => by
    have h1 : 1 ≤ m / 10 ^ (j + 1) := by omega
    have e : m / 10 ^ (j + 1) = m / 10 ^ j / 10 := by rw [Nat.div_div_eq_div_mul, Nat.pow_succ]
    rw [e] at h1 ⊢
    have h2 : 10 ≤ m / 10 ^ j := by omega
    have ih := nd_prefix_of j m (.inr (by omega))
    rw [nd_ge h2] at ih
    exact (List.prefix_append _ _).trans ih
/-- can the digits of n begin a number from lo to hi -/
theorem can_some {n lo hi j m : Nat} (h1 : lo ≤ m) (h2 : m ≤ hi) (h : n = m / 10 ^ j) : n * 10 ^ j ≤ hi ∧ lo ≤ n * 10 ^ j + (10 ^ j - 1) := by
  subst h
  have p : 0 < 10 ^ j := Nat.pow_pos (by omega)
  have a := Nat.div_mul_le_self m (10 ^ j)
  have b := Nat.div_add_mod m (10 ^ j)
  have c := Nat.mod_lt m p
  rw [Nat.mul_comm] at b
  generalize m / 10 ^ j * 10 ^ j = x at a b ⊢
  generalize 10 ^ j = y at p b c ⊢
  omega
theorem can_of {n lo hi j : Nat} (h0 : lo ≤ hi) (h1 : n * 10 ^ j ≤ hi) (h2 : lo ≤ n * 10 ^ j + (10 ^ j - 1)) : ∃ m, lo ≤ m ∧ m ≤ hi ∧ n = m / 10 ^ j := by
  have p : 0 < 10 ^ j := Nat.pow_pos (by omega)
  refine ⟨max lo (n * 10 ^ j), by omega, by omega, ?_⟩
  symm
  apply (Nat.div_eq_iff p).mpr
  generalize n * 10 ^ j = x at *
  generalize 10 ^ j = y at *
  omega
/-! ### reading a number -/
def canF (n lo hi : Int) : Nat → Int → Int → Bool
  | 0, _, _ => false
  | f + 1, a, b => if a ≤ hi then if lo ≤ b then true else if n = 0 then false else canF n lo hi f (a * 10) (b * 10 + 9) else false
def canB (n lo hi : Int) : Bool := canF n lo hi 4 n n
theorem canF_iff (n lo hi : Nat) (hn : 1 ≤ n) : ∀ (f : Nat) (j : Nat), (canF n lo hi f ((n * 10 ^ j : Nat) : Int) ((n * 10 ^ j + (10 ^ j - 1) : Nat) : Int) = true ↔ ∃ i, i < f ∧ n * 10 ^ (j + i) ≤ hi ∧ lo ≤ n * 10 ^ (j + i) + (10 ^ (j + i) - 1))
  | 0, j => by simp [canF]
  | f + 1, j => by
    have ih := canF_iff n lo hi hn f (j + 1)
    have p : 0 < 10 ^ j := Nat.pow_pos (by omega)
    have e1 : ((n * 10 ^ j : Nat) : Int) * 10 = ((n * 10 ^ (j + 1) : Nat) : Int) := by rw [Nat.pow_succ, ← Nat.mul_assoc]; omega
    have e2 : ((n * 10 ^ j + (10 ^ j - 1) : Nat) : Int) * 10 + 9 = ((n * 10 ^ (j + 1) + (10 ^ (j + 1) - 1) : Nat) : Int) := by
      rw [Nat.pow_succ, ← Nat.mul_assoc]
      generalize n * 10 ^ j = x
      generalize 10 ^ j = y at *
      omega
    rw [canF, e1, e2]
    have n0 : ¬ (n : Int) = 0 := by omega
    simp only [Int.ofNat_le, n0, if_false]
    have mono : ∀ i, n * 10 ^ j ≤ n * 10 ^ (j + i) := fun i => Nat.mul_le_mul_left _ (Nat.pow_le_pow_right (by omega) (by omega))
    by_cases h1 : n * 10 ^ j ≤ hi
    · rw [if_pos h1]
      by_cases h2 : lo ≤ n * 10 ^ j + (10 ^ j - 1)
      · rw [if_pos h2]
        simp only [true_iff]
        exact ⟨0, by omega, h1, h2⟩
      · rw [if_neg h2, ih]
        constructor
        · rintro ⟨i, a, b, c⟩
          exact ⟨i + 1, by omega, by rw [show j + (i + 1) = j + 1 + i by omega]; exact b, by rw [show j + (i + 1) = j + 1 + i by omega]; exact c⟩
        · rintro ⟨i, a, b, c⟩
          cases i with
          | zero => exact absurd c h2
          | succ i => exact ⟨i, by omega, by rw [show j + 1 + i = j + (i + 1) by omega]; exact b, by rw [show j + 1 + i = j + (i + 1) by omega]; exact c⟩
    · rw [if_neg h1]
      simp only [Bool.false_eq_true, false_iff]
      rintro ⟨i, a, b, c⟩
      have := mono i
      omega
theorem canB_iff {n lo hi : Nat} (h0 : lo ≤ hi) (h400 : hi ≤ 400) (hn : 1 ≤ n) : canB n lo hi = true ↔ ∃ m j, lo ≤ m ∧ m ≤ hi ∧ n = m / 10 ^ j := by
  have := canF_iff n lo hi hn 4 0
  simp only [Nat.pow_zero, Nat.mul_one, Nat.sub_self, Nat.add_zero, Nat.zero_add] at this
  unfold canB
  rw [this]
  constructor
  · rintro ⟨i, _, b, c⟩
    obtain ⟨m, x, y, z⟩ := can_of h0 b c
    exact ⟨m, i, x, y, z⟩
  · rintro ⟨m, j, x, y, z⟩
    obtain ⟨b, c⟩ := can_some x y z
    refine ⟨j, ?_, b, c⟩
    rcases Nat.lt_or_ge j 4 with g | g
    · exact g
    · have : 10 ^ 4 ≤ 10 ^ j := Nat.pow_le_pow_right (by omega) g
      have : n * 10 ^ 4 ≤ n * 10 ^ j := Nat.mul_le_mul_left _ this
      omega
theorem canB_zero {lo hi : Nat} : canB (0 : Nat) lo hi = decide (lo = 0) := by
  simp [canB, canF]
def digV (n : Int) (c : Nat) : Int := n * 10 + ((c - 48 : Nat) : Int)
def rdEnd (lo n : Int) (k : Nat) : Option Int × Nat := if k = 0 ∨ n < lo then (none, k) else (some n, k)
def rdN (lo hi : Int) : List Nat → Int → Nat → Option Int × Nat
  | [], n, k => rdEnd lo n k
  | c :: r, n, k => if isDig c = true then if (0 < k ∧ n = 0) ∨ canB (digV n c) lo hi = false then (none, k) else rdN lo hi r (digV n c) (k + 1) else rdEnd lo n k
/-- s begins a number from lo to hi with its end x -/
def NumP (lo hi x : Nat) (s : List Nat) : Prop := ∃ m, lo ≤ m ∧ m ≤ hi ∧ s <+: nd m ++ [x]
theorem pre_snoc {α : Type} {s a : List α} {c x : α} (h : s ++ [c] <+: a ++ [x]) : s ++ [c] <+: a ∨ (s = a ∧ c = x) := by
  by_cases hl : (s ++ [c]).length ≤ a.length
  · exact .inl (List.prefix_of_prefix_length_le h (List.prefix_append _ _) hl)
  · right
    have e : s ++ [c] = a ++ [x] := h.eq_of_length_le (by simp at hl ⊢; omega)
    have := List.append_inj' e rfl
    exact ⟨this.1, by simpa using this.2⟩
theorem rdN_spec {lo hi x : Nat} (h0 : lo ≤ hi) (h400 : hi ≤ 400) (hx : isDig x = false) : ∀ (l q : List Nat) (n : Nat), (q = [] ∧ n = 0 ∨ q = nd n ∧ ∃ m, lo ≤ m ∧ m ≤ hi ∧ q <+: nd m) →
    (∃ m t r, rdN lo hi l n q.length = (some ((m : Nat) : Int), (q ++ t).length) ∧ l = t ++ r ∧ q ++ t = nd m ∧ lo ≤ m ∧ m ≤ hi ∧ (∀ c r', r = c :: r' → isDig c = false)) ∨
    (∃ t r, rdN lo hi l n q.length = (none, (q ++ t).length) ∧ l = t ++ r ∧ (∀ c ∈ t, isDig c = true) ∧ (∃ m, lo ≤ m ∧ m ≤ hi ∧ q ++ t <+: nd m) ∧ (∀ c r', r = c :: r' → ¬ NumP lo hi x (q ++ t ++ [c])))
  | l, q, n, h => by
    have lenq : q.length = 0 ↔ q = [] := List.length_eq_zero_iff
    have bound : ∃ m, lo ≤ m ∧ m ≤ hi ∧ q <+: nd m := by
      rcases h with ⟨rfl, _⟩ | ⟨_, h⟩
      · exact ⟨lo, Nat.le_refl _, h0, List.nil_prefix⟩
      · exact h
    have stop : ∀ r, (∀ c r', r = c :: r' → isDig c = false) → 
      (∃ m t r', rdEnd lo n q.length = (some ((m : Nat) : Int), (q ++ t).length) ∧ r = t ++ r' ∧ q ++ t = nd m ∧ lo ≤ m ∧ m ≤ hi ∧ (∀ c r'', r' = c :: r'' → isDig c = false)) ∨
      (∃ t r', rdEnd lo n q.length = (none, (q ++ t).length) ∧ r = t ++ r' ∧ (∀ c ∈ t, isDig c = true) ∧ (∃ m, lo ≤ m ∧ m ≤ hi ∧ q ++ t <+: nd m) ∧ (∀ c r'', r' = c :: r'' → ¬ NumP lo hi x (q ++ t ++ [c]))) := by
      intro r hr
      unfold rdEnd
      by_cases he : q.length = 0 ∨ (n : Int) < lo
      · right
        refine ⟨[], r, by rw [if_pos he]; simp, rfl, by simp, by simpa using bound, ?_⟩
        rintro c r' rfl ⟨m, m1, m2, hp⟩
        have hc := hr c r' rfl
        rw [List.append_nil] at hp
        rcases pre_snoc hp with g | ⟨g, _⟩
        · have := nd_digs (g.subset (by simp : c ∈ q ++ [c]))
          rw [hc] at this; cases this
        · rcases h with ⟨rfl, _⟩ | ⟨e, _⟩
          · exact nd_ne m g.symm
          · rw [e] at g
            have := nd_inj g
            rcases he with he | he
            · rw [lenq.mp he] at e
              exact nd_ne n e.symm
            · omega
      · left
        rcases h with ⟨rfl, _⟩ | ⟨e, m, m1, m2, hp⟩
        · exact absurd (.inl rfl) he
        · refine ⟨n, [], r, by rw [if_neg he]; simp, rfl, by simpa using e, by omega, ?_, hr⟩
          obtain ⟨j, ej, _⟩ := nd_prefix m m (Nat.le_refl _) (by rw [e]; exact nd_ne n) hp
          rw [e] at ej
          have := nd_inj ej
          have := Nat.div_le_self m (10 ^ j)
          omega
    cases l with
    | nil => rw [rdN]; exact stop [] (fun c r' e => nomatch e)
    | cons c l =>
      rw [rdN]
      cases hd : isDig c with
      | false =>
        simp only [Bool.false_eq_true, if_false]
        exact stop (c :: l) (fun c' r' e => by cases e; exact hd)
      | true =>
        simp only [if_true]
        have hc : 48 ≤ c ∧ c ≤ 57 := by simpa [isDig] using hd
        have dv : digV n c = ((n * 10 + (c - 48) : Nat) : Int) := by unfold digV; omega
        have cx : c ≠ x := fun e => by rw [e, hx] at hd; cases hd
        have snoc : ¬ (0 < q.length ∧ n = 0) → q ++ [c] = nd (n * 10 + (c - 48)) := by
          intro hz
          rcases h with ⟨rfl, rfl⟩ | ⟨e, _⟩
          · rw [nd_lt (by omega)]; simp; omega
          · have n1 : n ≠ 0 := fun e0 => hz ⟨by rw [e]; exact List.length_pos_iff.mpr (nd_ne n), e0⟩
            rw [nd_ge (by omega), e]
            have : (n * 10 + (c - 48)) / 10 = n := by omega
            have : (n * 10 + (c - 48)) % 10 = c - 48 := by omega
            simp [*]
        have key : (0 < q.length ∧ n = 0) ∨ canB (digV n c) lo hi = false ∨ ∃ m, lo ≤ m ∧ m ≤ hi ∧ q ++ [c] <+: nd m := by
          by_cases hz : 0 < q.length ∧ n = 0
          · exact .inl hz
          · right
            cases hb : canB (digV n c) lo hi with
            | false => exact .inl rfl
            | true =>
              right
              rw [snoc hz]
              rw [dv] at hb
              by_cases h1 : n * 10 + (c - 48) = 0
              · rw [h1] at hb ⊢
                rw [canB_zero] at hb
                simp at hb
                exact ⟨0, by omega, by omega, List.prefix_refl _⟩
              · obtain ⟨m, j, m1, m2, e⟩ := (canB_iff h0 h400 (by omega)).mp hb
                exact ⟨m, m1, m2, by rw [e]; exact nd_prefix_of j m (.inr (by omega))⟩
        have bad : (0 < q.length ∧ n = 0) ∨ canB (digV n c) lo hi = false → ¬ NumP lo hi x (q ++ [c]) := by
          rintro hb ⟨m, m1, m2, hp⟩
          rcases pre_snoc hp with g | ⟨_, g⟩
          · obtain ⟨j, ej, hj⟩ := nd_prefix m m (Nat.le_refl _) (by simp) g
            by_cases hz : 0 < q.length ∧ n = 0
            · rcases h with ⟨rfl, _⟩ | ⟨e, _⟩
              · simp at hz
              · generalize m / 10 ^ j = y at ej
                by_cases hy : y < 10
                · rw [nd_lt hy] at ej
                  have := congrArg List.length ej
                  simp at this
                  rw [this] at hz; simp at hz
                · rw [nd_ge (by omega)] at ej
                  have := (List.append_inj' ej rfl).1
                  rw [e, hz.2] at this
                  have := nd_inj this
                  omega
            · rcases hb with hb | hb
              · exact hz hb
              · rw [snoc hz] at ej
                have ey := nd_inj ej
                rw [dv] at hb
                by_cases h1 : n * 10 + (c - 48) = 0
                · rw [h1, canB_zero] at hb
                  have hm : m = 0 := by
                    rcases hj with rfl | hj
                    · simp at ey; omega
                    · omega
                  simp at hb; omega
                · have := (canB_iff h0 h400 (by omega)).mpr ⟨m, j, m1, m2, ey⟩
                  rw [this] at hb; cases hb
          · exact cx g
        by_cases hb : (0 < q.length ∧ n = 0) ∨ canB (digV n c) lo hi = false
        · right
          have hb' : (0 < q.length ∧ (n : Int) = 0) ∨ canB (digV n c) lo hi = false := hb.imp_left fun z => ⟨z.1, by omega⟩
          rw [if_pos hb']
          refine ⟨[], c :: l, by simp, rfl, by simp, by simpa using bound, ?_⟩
          intro c' r' e
          cases e
          simpa using bad hb
        · have hb' : ¬ ((0 < q.length ∧ (n : Int) = 0) ∨ canB (digV n c) lo hi = false) := fun z => hb (z.imp_left fun z => ⟨z.1, by omega⟩)
          rw [if_neg hb']
          have hz : ¬ (0 < q.length ∧ n = 0) := fun z => hb (.inl z)
          have nx : ∃ m, lo ≤ m ∧ m ≤ hi ∧ q ++ [c] <+: nd m := by
            rcases key with k | k | k
            · exact absurd k hz
            · exact absurd (.inr k) hb
            · exact k
          have ih := rdN_spec h0 h400 hx l (q ++ [c]) (n * 10 + (c - 48)) (.inr ⟨snoc hz, nx⟩)
          rw [dv]
          have ll : (q ++ [c]).length = q.length + 1 := by simp
          rw [ll] at ih
          rcases ih with ⟨m, t, r, e, el, e2, m1, m2, hr⟩ | ⟨t, r, e, el, ht, hm, hr⟩
          · exact .inl ⟨m, c :: t, r, by rw [e]; simp, by rw [el]; rfl, by simpa using e2, m1, m2, hr⟩
          · refine .inr ⟨c :: t, r, by rw [e]; simp, by rw [el]; rfl, ?_, by simpa using hm, by simpa using hr⟩
            intro c' hc'
            rcases List.mem_cons.mp hc' with rfl | hc'
            · exact hd
            · exact ht c' hc'
termination_by l => l.length
/-! ### words -/
def comm : List Nat → List Nat → Nat
  | a :: r, b :: t => if a = b then comm r t + 1 else 0
  | _, _ => 0
theorem comm_take : ∀ (l m : List Nat), l.take (comm l m) <+: m
  | [], _ => by simp
  | _ :: _, [] => by simp [comm]
  | a :: r, b :: t => by
    unfold comm
    have := comm_take r t
    split
    · rename_i e
      subst e
      simpa using this
    · simp
theorem comm_ge : ∀ {s l m : List Nat}, s <+: l → s <+: m → s.length ≤ comm l m
  | [], _, _, _, _ => by simp
  | c :: s, l, m, h1, h2 => by
    cases l with
    | nil => simp at h1
    | cons a l =>
      cases m with
      | nil => simp at h2
      | cons b m =>
        rw [List.cons_prefix_cons] at h1 h2
        have := comm_ge h1.2 h2.2
        simp [comm, ← h1.1, ← h2.1, this]
theorem comm_le' : ∀ (l m : List Nat), comm l m ≤ l.length ∧ comm l m ≤ m.length
  | [], _ => by simp [comm]
  | _ :: _, [] => by simp [comm]
  | a :: r, b :: t => by
    unfold comm
    have := comm_le' r t
    split <;> simp <;> omega
theorem comm_full {l m : List Nat} : comm l m = m.length ↔ m <+: l := by
  constructor
  · intro h
    have h1 := comm_take l m
    have h2 := (comm_le' l m).1
    have : l.take (comm l m) = m := h1.eq_of_length_le (by rw [List.length_take]; omega)
    rw [← this]
    exact List.take_prefix _ _
  · intro h
    have := comm_ge h (List.prefix_refl m)
    have := (comm_le' l m).2
    omega
def rdW (l : List Nat) : List (List Nat) → Nat → Option (List Nat) × Nat
  | [], far => (none, far)
  | e :: es, far => if comm l e = e.length then (some e, far) else rdW l es (max far (comm l e))
theorem rdW_spec (l : List Nat) (E : List (List Nat)) : ∀ (es : List (List Nat)) (far : Nat), (∀ e ∈ es, e ∈ E) → (far ≤ l.length ∧ ∃ e ∈ E, l.take far <+: e) → (∀ e ∈ E, e ∈ es ∨ (¬ e <+: l ∧ comm l e ≤ far)) →
    (∃ e f, rdW l es far = (some e, f) ∧ e ∈ E ∧ e <+: l) ∨ (∃ f, rdW l es far = (none, f) ∧ f ≤ l.length ∧ (∃ e ∈ E, l.take f <+: e) ∧ ∀ e ∈ E, ¬ e <+: l ∧ comm l e ≤ f)
  | [], far, _, h1, h2 => .inr ⟨far, rfl, h1.1, h1.2, fun e he => (h2 e he).resolve_left (by simp)⟩
  | e :: es, far, h0, h1, h2 => by
    rw [rdW]
    by_cases h : comm l e = e.length
    · rw [if_pos h]
      exact .inl ⟨e, far, rfl, h0 e (by simp), comm_full.mp h⟩
    · rw [if_neg h]
      refine rdW_spec l E es _ (fun e' h' => h0 e' (by simp [h'])) ?_ fun e' h' => ?_
      · have := (comm_le' l e).1
        refine ⟨by omega, ?_⟩
        rcases Nat.le_total far (comm l e) with g | g
        · rw [Nat.max_eq_right g]; exact ⟨e, h0 e (by simp), comm_take l e⟩
        · rw [Nat.max_eq_left g]; exact h1.2
      · rcases h2 e' h' with g | g
        · rcases List.mem_cons.mp g with rfl | g
          · exact .inr ⟨fun z => h (comm_full.mpr z), by omega⟩
          · exact .inl g
        · exact .inr ⟨g.1, by omega⟩
def ew : List (List Nat) := [[97, 115, 107, 32], [97, 114, 114, 105, 118, 101, 32], [100, 111, 32], [97, 103, 97, 105, 110, 32], [104, 101, 97, 114, 32], [108, 97, 116, 101, 32], [99, 114, 97, 115, 104, 10], [103, 105, 118, 101, 32, 117, 112, 10]]
def numE : List (List Nat) := [[97, 115, 107, 32], [97, 114, 114, 105, 118, 101, 32], [100, 111, 32], [97, 103, 97, 105, 110, 32], [104, 101, 97, 114, 32], [108, 97, 116, 101, 32]]
theorem ew_free : ∀ a ∈ ew, ∀ b ∈ ew, a <+: b → a = b := by decide
theorem ew_last : ∀ a ∈ ew, 10 ∉ a.dropLast := by decide
theorem ew_num : ∀ a ∈ numE, a ∈ ew ∧ 10 ∉ a := by decide
theorem ew_plain : ∀ a ∈ ew, a ∉ numE → a.getLast? = some 10 ∧ a ≠ [] := by decide
/-! ### a line -/
def Tail (e : List Nat) (n : Int) (u : List Nat) : Prop := (e ∈ ew ∧ e ∉ numE ∧ u = [] ∧ n = -1) ∨ (e ∈ numE ∧ ∃ j : Nat, j ≤ 39 ∧ u = nd j ++ [10] ∧ n = j)
def VL (low t : Nat) (e : List Nat) (n : Int) (v : List Nat) : Prop := low ≤ t ∧ t ≤ 400 ∧ ∃ u, Tail e n u ∧ v = nd t ++ 32 :: (e ++ u)
def Pre (low : Nat) (s : List Nat) : Prop := ∃ t e n v, VL low t e n v ∧ s <+: v
theorem Pre.mono {low : Nat} {s s' : List Nat} (h : Pre low s) (p : s' <+: s) : Pre low s' :=
  let ⟨t, e, n, v, a, b⟩ := h; ⟨t, e, n, v, a, p.trans b⟩
/-- a number ends where its end is -/
theorem cancel {P : Nat → Bool} {x y : Nat} (hx : P x = false) (hy : P y = false) : ∀ {a b s s' : List Nat}, (∀ c ∈ a, P c = true) → (∀ c ∈ b, P c = true) → a ++ x :: s <+: b ++ y :: s' → a = b ∧ x = y ∧ s <+: s'
  | [], [], s, s', _, _, h => by
    simp only [List.nil_append, List.cons_prefix_cons] at h
    exact ⟨rfl, h⟩
  | [], d :: b, s, s', _, hb, h => by
    simp only [List.nil_append, List.cons_append, List.cons_prefix_cons] at h
    have := hb d (by simp)
    rw [← h.1, hx] at this; cases this
  | d :: a, [], s, s', ha, _, h => by
    simp only [List.nil_append, List.cons_append, List.cons_prefix_cons] at h
    have := ha d (by simp)
    rw [h.1, hy] at this; cases this
  | c :: a, d :: b, s, s', ha, hb, h => by
    simp only [List.cons_append, List.cons_prefix_cons] at h
    obtain ⟨e1, e2, e3⟩ := cancel hx hy (fun c' h' => ha c' (by simp [h'])) (fun c' h' => hb c' (by simp [h'])) h.2
    exact ⟨by rw [h.1, e1], e2, e3⟩
theorem numP_of {x m : Nat} {q rest : List Nat} {c : Nat} (hx : isDig x = false) (hq : ∀ c ∈ q, isDig c = true) (h : q ++ [c] <+: nd m ++ x :: rest) : q ++ [c] <+: nd m ++ [x] := by
  have e : nd m ++ x :: rest = (nd m ++ [x]) ++ rest := by simp
  rw [e] at h
  by_cases hl : (q ++ [c]).length ≤ (nd m ++ [x]).length
  · exact List.prefix_of_prefix_length_le h (List.prefix_append _ _) hl
  · have h2 : nd m ++ [x] <+: q ++ [c] := List.prefix_of_prefix_length_le (List.prefix_append _ _) h (by omega)
    have h3 : nd m ++ [x] <+: q := List.prefix_of_prefix_length_le h2 (List.prefix_append _ _) (by simp at hl ⊢; omega)
    have := hq x (h3.subset (by simp))
    rw [hx] at this; cases this
def rdL (low : Int) (l : List Nat) : Option (Int × List Nat × Int) × Nat := match rdN low 400 l 0 0 with
  | (none, k) => (none, k)
  | (some t, k) => if (l.drop k)[0]? = some 32 then match rdW (l.drop (k + 1)) ew 0 with
    | (none, far) => (none, k + 1 + far)
    | (some e, _) => if e ∈ numE then match rdN 0 39 (l.drop (k + 1 + e.length)) 0 0 with
        | (none, j) => (none, k + 1 + e.length + j)
        | (some n, j) => if (l.drop (k + 1 + e.length + j))[0]? = some 10 then (some (t, e, n), k + 1 + e.length + j + 1) else (none, k + 1 + e.length + j)
      else (some (t, e, -1), k + 1 + e.length)
    else (none, k)
theorem dig32 : isDig 32 = false := by decide
theorem dig10 : isDig 10 = false := by decide
/-- how the reading of a line ends -/
def LineOk (low : Nat) (l : List Nat) (r : Option (Int × List Nat × Int) × Nat) : Prop :=
  (∃ (t : Nat) (e : List Nat) (n : Int) (v r' : List Nat), r = (some ((t : Int), e, n), (v ++ [10]).length) ∧ l = v ++ 10 :: r' ∧ 10 ∉ v ∧ VL low t e n (v ++ [10])) ∨
  (∃ q r' : List Nat, r = (none, q.length) ∧ l = q ++ r' ∧ 10 ∉ q ∧ Pre low q ∧ ∀ c r'', r' = c :: r'' → ¬ Pre low (q ++ [c]))
theorem no10_dig {q : List Nat} (h : ∀ c ∈ q, isDig c = true) : 10 ∉ q := fun z => by
  have := h 10 z; rw [dig10] at this; cases this
theorem drop_at {q l r : List Nat} (h : l = q ++ r) : l.drop q.length = r := by rw [h]; simp
theorem head_of {r : List Nat} {c : Nat} (h : r[0]? = some c) : ∃ r', r = c :: r' := by
  cases r with
  | nil => simp at h
  | cons a r => simp at h; exact ⟨r, by rw [h]⟩
theorem tailW : Tail [97, 115, 107, 32] 0 (nd 0 ++ [10]) := .inr ⟨by decide, 0, by omega, rfl, rfl⟩
theorem rdL_spec {low : Nat} (h400 : low ≤ 400) (l : List Nat) : LineOk low l (rdL low l) := by
  unfold rdL
  have s1 := rdN_spec (x := 32) h400 (Nat.le_refl 400) dig32 l [] 0 (.inl ⟨rfl, rfl⟩)
  simp only [List.nil_append, List.length_nil] at s1
  rcases s1 with ⟨t, q, r, e1, el, eq, t1, t2, hr⟩ | ⟨q, r, e1, el, hq, ⟨m, m1, m2, hm⟩, hr⟩
  · subst eq
    rw [show ((0 : Nat) : Int) = 0 from rfl, show ((400 : Nat) : Int) = 400 from rfl] at e1
    rw [e1]
    simp only [drop_at el]
    have lk := drop_at el
    by_cases h32 : r[0]? = some 32
    · rw [if_pos h32]
      obtain ⟨r, rfl⟩ := head_of h32
      have el2 : l = (nd t ++ [32]) ++ r := by rw [el]; simp
      have d2 : l.drop ((nd t).length + 1) = r := by have := drop_at el2; simpa using this
      rw [d2]
      have s2 := rdW_spec r ew ew 0 (fun _ h => h) ⟨by omega, [97, 115, 107, 32], by decide, List.nil_prefix⟩ (fun e h => .inl h)
      rcases s2 with ⟨e, f, e2, he, hp⟩ | ⟨f, e2, hf, ⟨e, he, hp⟩, hn⟩
      · rw [e2]
        simp only
        obtain ⟨r2, er⟩ := hp
        have el3 : l = (nd t ++ 32 :: e) ++ r2 := by rw [el, ← er]; simp
        have d3 : l.drop ((nd t).length + 1 + e.length) = r2 := by
          have := drop_at el3
          rwa [show (nd t ++ 32 :: e).length = (nd t).length + 1 + e.length by simp; omega] at this
        by_cases hnum : e ∈ numE
        · rw [if_pos hnum, d3]
          have s3 := rdN_spec (x := 10) (lo := 0) (hi := 39) (by omega) (by omega) dig10 r2 [] 0 (.inl ⟨rfl, rfl⟩)
          simp only [List.nil_append, List.length_nil] at s3
          have e10 := (ew_num e hnum).2
          rcases s3 with ⟨j, q, r3, e3, el4, eq, j1, j2, hr3⟩ | ⟨q, r3, e3, el4, hq, ⟨m, m1, m2, hm⟩, hr3⟩
          · subst eq
            rw [show ((0 : Nat) : Int) = 0 from rfl, show ((39 : Nat) : Int) = 39 from rfl] at e3
            rw [e3]
            simp only
            have el5 : l = (nd t ++ 32 :: (e ++ nd j)) ++ r3 := by rw [el3, el4]; simp
            have len5 : (nd t ++ 32 :: (e ++ nd j)).length = (nd t).length + 1 + e.length + (nd j).length := by simp; omega
            have d5 : l.drop ((nd t).length + 1 + e.length + (nd j).length) = r3 := by
              have := drop_at el5
              rwa [len5] at this
            rw [d5]
            have no10 : 10 ∉ nd t ++ 32 :: (e ++ nd j) := by
              intro z
              simp only [List.mem_append, List.mem_cons] at z
              rcases z with z | z | z | z
              · exact no10_dig (fun _ h => nd_digs h) z
              · omega
              · exact e10 z
              · exact no10_dig (fun _ h => nd_digs h) z
            by_cases h10 : r3[0]? = some 10
            · rw [if_pos h10]
              obtain ⟨r3, rfl⟩ := head_of h10
              refine .inl ⟨t, e, j, nd t ++ 32 :: (e ++ nd j), r3, ?_, el5, no10, t1, t2, nd j ++ [10], .inr ⟨hnum, j, j2, rfl, rfl⟩, by simp⟩
              rw [List.length_append, len5]; rfl
            · rw [if_neg h10]
              refine .inr ⟨_, r3, by rw [len5], el5, no10, ⟨t, e, j, _, ⟨t1, t2, nd j ++ [10], .inr ⟨hnum, j, j2, rfl, rfl⟩, rfl⟩, ?_⟩, ?_⟩
              · exact ⟨[10], by simp⟩
              · rintro c r'' rfl ⟨t', e', n', v, ⟨a1, a2, u, hu, rfl⟩, hv⟩
                have hv' : nd t ++ 32 :: (e ++ (nd j ++ [c])) <+: nd t' ++ 32 :: (e' ++ u) := by simpa using hv
                obtain ⟨_, _, hv2⟩ := cancel dig32 dig32 (fun _ h => nd_digs h) (fun _ h => nd_digs h) hv'
                have he' : e' ∈ ew := by rcases hu with hu | hu; exact hu.1; exact (ew_num e' hu.1).1
                have ee : e = e' := by
                  rcases Nat.le_total e.length e'.length with g | g
                  · exact ew_free e he e' he' (List.prefix_of_prefix_length_le ((List.prefix_append _ _).trans hv2) (List.prefix_append _ _) g)
                  · exact (ew_free e' he' e he (List.prefix_of_prefix_length_le (List.prefix_append _ _) ((List.prefix_append _ _).trans hv2) g)).symm
                subst ee
                rw [List.prefix_append_right_inj] at hv2
                rcases hu with hu | ⟨_, j', _, rfl, _⟩
                · exact hu.2.1 hnum
                · have := (cancel (s := []) (hr3 c r'' rfl) dig10 (fun _ h => nd_digs h) (fun _ h => nd_digs h) hv2).2.1
                  exact h10 (by rw [this]; rfl)
          · rw [show ((0 : Nat) : Int) = 0 from rfl, show ((39 : Nat) : Int) = 39 from rfl] at e3
            rw [e3]
            simp only
            have el5 : l = (nd t ++ 32 :: (e ++ q)) ++ r3 := by rw [el3, el4]; simp
            have len5 : (nd t ++ 32 :: (e ++ q)).length = (nd t).length + 1 + e.length + q.length := by simp; omega
            refine .inr ⟨_, r3, by rw [len5], el5, ?_, ⟨t, e, m, _, ⟨t1, t2, nd m ++ [10], .inr ⟨hnum, m, m2, rfl, rfl⟩, rfl⟩, ?_⟩, ?_⟩
            · intro z
              simp only [List.mem_append, List.mem_cons] at z
              rcases z with z | z | z | z
              · exact no10_dig (fun _ h => nd_digs h) z
              · omega
              · exact e10 z
              · exact no10_dig hq z
            · obtain ⟨w, hw⟩ := hm
              exact ⟨w ++ [10], by rw [← hw]; simp⟩
            · rintro c r'' rfl ⟨t', e', n', v, ⟨a1, a2, u, hu, rfl⟩, hv⟩
              have hv' : nd t ++ 32 :: (e ++ (q ++ [c])) <+: nd t' ++ 32 :: (e' ++ u) := by simpa using hv
              obtain ⟨_, _, hv2⟩ := cancel dig32 dig32 (fun _ h => nd_digs h) (fun _ h => nd_digs h) hv'
              have he' : e' ∈ ew := by rcases hu with hu | hu; exact hu.1; exact (ew_num e' hu.1).1
              have ee : e = e' := by
                rcases Nat.le_total e.length e'.length with g | g
                · exact ew_free e he e' he' (List.prefix_of_prefix_length_le ((List.prefix_append _ _).trans hv2) (List.prefix_append _ _) g)
                · exact (ew_free e' he' e he (List.prefix_of_prefix_length_le (List.prefix_append _ _) ((List.prefix_append _ _).trans hv2) g)).symm
              subst ee
              rw [List.prefix_append_right_inj] at hv2
              rcases hu with hu | ⟨_, j', hj', rfl, _⟩
              · exact hu.2.1 hnum
              · exact hr3 c r'' rfl ⟨j', by omega, hj', hv2⟩
        · rw [if_neg hnum]
          obtain ⟨g1, g2⟩ := ew_plain e he hnum
          have ed : e = e.dropLast ++ [10] := by
            have := List.dropLast_concat_getLast g2
            rw [List.getLast?_eq_some_getLast g2] at g1
            rw [Option.some.inj g1] at this
            exact this.symm
          refine .inl ⟨t, e, -1, nd t ++ 32 :: e.dropLast, r2, ?_, ?_, ?_, t1, t2, [], .inl ⟨he, hnum, rfl, rfl⟩, ?_⟩
          · congr 1
            have := congrArg List.length ed
            simp at this ⊢; omega
          · rw [el3]
            conv => lhs; rw [ed]
            simp
          · intro z
            simp only [List.mem_append, List.mem_cons] at z
            rcases z with z | z | z
            · exact no10_dig (fun _ h => nd_digs h) z
            · omega
            · exact ew_last e he z
          · conv => rhs; rw [ed]
            simp
      · rw [e2]
        simp only
        have lt : (r.take f).length = f := by rw [List.length_take]; omega
        refine .inr ⟨nd t ++ 32 :: r.take f, r.drop f, ?_, ?_, ?_, ?_, ?_⟩
        · congr 1
          simp; omega
        · rw [el]; simp
        · have ne : r.take f ≠ e := fun z => (hn e he).1 (by rw [← z]; exact List.take_prefix _ _)
          have : r.take f <+: e.dropLast := by
            have hl : (r.take f).length < e.length := by
              rcases Nat.lt_or_ge (r.take f).length e.length with g | g
              · exact g
              · exact absurd (hp.eq_of_length_le g) ne
            exact List.prefix_of_prefix_length_le hp (List.dropLast_prefix e) (by rw [List.length_dropLast]; omega)
          intro z
          simp only [List.mem_append, List.mem_cons] at z
          rcases z with z | z | z
          · exact no10_dig (fun _ h => nd_digs h) z
          · omega
          · exact ew_last e he (this.subset z)
        · have : ∃ n u, Tail e n u := by
            by_cases hnum : e ∈ numE
            · exact ⟨0, _, .inr ⟨hnum, 0, by omega, rfl, rfl⟩⟩
            · exact ⟨_, _, .inl ⟨he, hnum, rfl, rfl⟩⟩
          obtain ⟨n, u, hu⟩ := this
          refine ⟨t, e, n, _, ⟨t1, t2, u, hu, rfl⟩, ?_⟩
          rw [List.prefix_append_right_inj, List.cons_prefix_cons]
          exact ⟨rfl, hp.trans (List.prefix_append _ _)⟩
        · rintro c r'' er ⟨t', e', n', v, ⟨a1, a2, u, hu, rfl⟩, hv⟩
          have hv' : nd t ++ 32 :: (r.take f ++ [c]) <+: nd t' ++ 32 :: (e' ++ u) := by simpa using hv
          obtain ⟨_, _, hv2⟩ := cancel dig32 dig32 (fun _ h => nd_digs h) (fun _ h => nd_digs h) hv'
          have he' : e' ∈ ew := by rcases hu with hu | hu; exact hu.1; exact (ew_num e' hu.1).1
          have hpr : r.take f ++ [c] <+: r := ⟨r'', by rw [List.append_assoc, List.singleton_append, ← er, List.take_append_drop]⟩
          obtain ⟨n1, n2⟩ := hn e' he'
          by_cases g : (r.take f ++ [c]).length ≤ e'.length
          · have := comm_ge hpr (List.prefix_of_prefix_length_le hv2 (List.prefix_append _ _) g)
            rw [List.length_append, lt] at this
            simp at this; omega
          · exact n1 ((List.prefix_of_prefix_length_le (List.prefix_append _ _) hv2 (by omega)).trans hpr)
    · rw [if_neg h32]
      refine .inr ⟨nd t, r, rfl, el, no10_dig (fun _ h => nd_digs h), ⟨t, _, _, _, ⟨t1, t2, _, tailW, rfl⟩, List.prefix_append _ _⟩, ?_⟩
      rintro c r'' rfl ⟨t', e', n', v, ⟨a1, a2, u, hu, rfl⟩, hv⟩
      have := (cancel (s := []) (hr c r'' rfl) dig32 (fun _ h => nd_digs h) (fun _ h => nd_digs h) hv).2.1
      exact h32 (by rw [this]; rfl)
  · rw [show ((0 : Nat) : Int) = 0 from rfl, show ((400 : Nat) : Int) = 400 from rfl] at e1
    rw [e1]
    refine .inr ⟨q, r, rfl, el, no10_dig hq, ⟨m, _, _, _, ⟨m1, m2, _, tailW, rfl⟩, hm.trans (List.prefix_append _ _)⟩, ?_⟩
    rintro c r'' rfl ⟨t', e', n', v, ⟨a1, a2, u, hu, rfl⟩, hv⟩
    exact hr c r'' rfl ⟨t', a1, a2, numP_of dig32 hq hv⟩
/-! ### the law's own reading -/
theorem tw_mem {p : Nat → Bool} : ∀ {l : List Nat} {c : Nat}, c ∈ l.takeWhile p → p c = true
  | [], _, h => by simp at h
  | a :: l, c, h => by
    rw [List.takeWhile_cons] at h
    split at h
    · rename_i ha
      rcases List.mem_cons.mp h with rfl | h
      · exact ha
      · exact tw_mem h
    · simp at h
def spl (c : Nat) : List Nat → List (List Nat)
  | [] => [[]]
  | a :: r => if a = c then [] :: spl c r else match spl c r with
    | [] => [[a]]
    | p :: ps => (a :: p) :: ps
theorem spl_app {c : Nat} {r : List Nat} : ∀ {v : List Nat}, c ∉ v → spl c (v ++ c :: r) = v :: spl c r
  | [], _ => by simp [spl]
  | a :: v, h => by
    have h1 : a ≠ c := fun e => h (by simp [e])
    have h2 : c ∉ v := fun e => h (by simp [e])
    rw [List.cons_append, spl, if_neg h1, spl_app h2]
theorem spl_no {c : Nat} : ∀ {v : List Nat}, c ∉ v → spl c v = [v]
  | [], _ => by simp [spl]
  | a :: v, h => by
    have h1 : a ≠ c := fun e => h (by simp [e])
    have h2 : c ∉ v := fun e => h (by simp [e])
    rw [spl, if_neg h1, spl_no h2]
theorem spl_ne (c : Nat) (l : List Nat) : ∃ p ps, spl c l = p :: ps := by
  cases l with
  | nil => exact ⟨_, _, rfl⟩
  | cons a r =>
    rw [spl]
    split
    · exact ⟨_, _, rfl⟩
    · split <;> exact ⟨_, _, rfl⟩
def ticks (low : Nat) : List (List Nat) := (List.range' low (401 - low)).map nd
def enL : List (List Nat) := (ew.filter (fun e => !decide (e ∈ numE))).map List.dropLast ++ numE.flatMap fun e => (List.range 40).map fun j => e ++ nd j
def bg (low : Nat) (s : List Nat) : Bool := match s.dropWhile (· != 32) with
  | [] => (ticks low).any fun t => s.isPrefixOf t
  | _ :: rest => (ticks low).contains (s.takeWhile (· != 32)) && enL.any fun e => rest.isPrefixOf (e ++ [10])
theorem enL_iff {x : List Nat} : (∃ e ∈ enL, x <+: e ++ [10]) ↔ ∃ e n u, Tail e n u ∧ x <+: e ++ u := by
  unfold enL
  constructor
  · rintro ⟨e, he, hx⟩
    rcases List.mem_append.mp he with he | he
    · obtain ⟨e', h1, rfl⟩ := List.mem_map.mp he
      simp only [List.mem_filter, Bool.not_eq_eq_eq_not, Bool.not_true, decide_eq_false_iff_not] at h1
      obtain ⟨g1, g2⟩ := ew_plain e' h1.1 h1.2
      refine ⟨e', -1, [], .inl ⟨h1.1, h1.2, rfl, rfl⟩, ?_⟩
      have := List.dropLast_concat_getLast g2
      rw [List.getLast?_eq_some_getLast g2] at g1
      rw [Option.some.inj g1] at this
      rw [this] at hx
      simpa using hx
    · obtain ⟨e', h1, h2⟩ := List.mem_flatMap.mp he
      obtain ⟨j, h3, rfl⟩ := List.mem_map.mp h2
      exact ⟨e', j, nd j ++ [10], .inr ⟨h1, j, by have := List.mem_range.mp h3; omega, rfl, rfl⟩, by simpa using hx⟩
  · rintro ⟨e, n, u, h, hx⟩
    rcases h with ⟨h1, h2, rfl, _⟩ | ⟨h1, j, h2, rfl, _⟩
    · obtain ⟨g1, g2⟩ := ew_plain e h1 h2
      have := List.dropLast_concat_getLast g2
      rw [List.getLast?_eq_some_getLast g2] at g1
      rw [Option.some.inj g1] at this
      refine ⟨e.dropLast, List.mem_append_left _ (List.mem_map.mpr ⟨e, ?_, rfl⟩), by rw [this]; simpa using hx⟩
      simp [h1, h2]
    · exact ⟨e ++ nd j, List.mem_append_right _ (List.mem_flatMap.mpr ⟨e, h1, List.mem_map.mpr ⟨j, List.mem_range.mpr (by omega), rfl⟩⟩), by simpa using hx⟩
theorem ticks_iff {low : Nat} {x : List Nat} : x ∈ ticks low ↔ ∃ t, low ≤ t ∧ t ≤ 400 ∧ x = nd t := by
  unfold ticks
  simp only [List.mem_map, List.mem_range'_1]
  constructor
  · rintro ⟨t, h, rfl⟩; exact ⟨t, by omega, by omega, rfl⟩
  · rintro ⟨t, h1, h2, rfl⟩; exact ⟨t, by omega, rfl⟩
theorem nd32 {t c : Nat} (h : c ∈ nd t) : (c != 32) = true := by
  have := nd_digs h
  simp [isDig] at this
  simp; omega
theorem bg_iff {low : Nat} (h400 : low ≤ 400) (s : List Nat) : bg low s = true ↔ Pre low s := by
  unfold bg
  have sp := List.takeWhile_append_dropWhile (p := fun c : Nat => c != 32) (l := s)
  cases hd : s.dropWhile (· != 32) with
  | nil =>
    rw [hd, List.append_nil] at sp
    have no : ∀ c ∈ s, (c != 32) = true := fun c hc => by
      rw [← sp] at hc
      exact tw_mem (p := fun c => c != 32) hc
    simp only [List.any_eq_true, List.isPrefixOf_iff_prefix]
    constructor
    · rintro ⟨x, hx, hp⟩
      obtain ⟨t, h1, h2, rfl⟩ := ticks_iff.mp hx
      exact ⟨t, _, _, _, ⟨h1, h2, _, tailW, rfl⟩, hp.trans (List.prefix_append _ _)⟩
    · rintro ⟨t, e, n, v, ⟨h1, h2, u, hu, rfl⟩, hp⟩
      refine ⟨nd t, ticks_iff.mpr ⟨t, h1, h2, rfl⟩, ?_⟩
      rcases Nat.le_total s.length (nd t).length with g | g
      · exact List.prefix_of_prefix_length_le hp (List.prefix_append _ _) g
      · rcases Nat.lt_or_ge (nd t).length s.length with g2 | g2
        · exfalso
          have e1 : nd t ++ 32 :: (e ++ u) = (nd t ++ [32]) ++ (e ++ u) := by simp
          rw [e1] at hp
          have : nd t ++ [32] <+: s := List.prefix_of_prefix_length_le (List.prefix_append _ _) hp (by simp; omega)
          have := no 32 (this.subset (by simp))
          simp at this
        · exact List.prefix_of_prefix_length_le hp (List.prefix_append _ _) g2
  | cons c rest =>
    rw [hd] at sp
    have hc : c = 32 := by
      have := List.head?_dropWhile_not (fun c : Nat => c != 32) s
      rw [hd] at this
      simpa using this
    subst hc
    have no : ∀ c ∈ s.takeWhile (· != 32), (c != 32) = true := fun c hc => tw_mem (p := fun c => c != 32) hc
    generalize s.takeWhile (· != 32) = a at sp no
    rw [Bool.and_eq_true, List.contains_iff_mem, List.any_eq_true]
    simp only [List.isPrefixOf_iff_prefix]
    rw [enL_iff, ticks_iff]
    constructor
    · rintro ⟨⟨t, h1, h2, rfl⟩, e, n, u, hu, hp⟩
      refine ⟨t, e, n, _, ⟨h1, h2, u, hu, rfl⟩, ?_⟩
      rw [← sp, List.prefix_append_right_inj, List.cons_prefix_cons]
      exact ⟨rfl, hp⟩
    · rintro ⟨t, e, n, v, ⟨h1, h2, u, hu, rfl⟩, hp⟩
      rw [← sp] at hp
      obtain ⟨g1, _, g3⟩ := cancel (P := fun c => c != 32) (by rfl) (by rfl) no (fun c hc => nd32 hc) hp
      exact ⟨⟨t, h1, h2, g1⟩, e, n, u, hu, g3⟩
/-- where a line departs -/
def plc (B : List Nat → Bool) (line : List Nat) : Nat := ((List.range line.length).find? fun k => !B (line.take (k + 1))).getD line.length
theorem find_first (p : Nat → Bool) (n k : Nat) (hk : k < n) (h : p k = true) (hb : ∀ j, j < k → p j = false) : (List.range n).find? p = some k := by
  rw [List.find?_range_eq_some]
  refine ⟨h, List.mem_range.mpr hk, fun j hj => by simp [hb j hj]⟩
theorem plc_eq {B : List Nat → Bool} {line q r : List Nat} (e : line = q ++ r) (hq : ∀ s, s <+: q → B s = true) (hr : ∀ c r', r = c :: r' → B (q ++ [c]) = false) : plc B line = q.length := by
  unfold plc
  have pre : ∀ k, k < q.length → B (line.take (k + 1)) = true := fun k hk => by
    rw [e, List.take_append_of_le_length (by omega)]
    exact hq _ (List.take_prefix _ _)
  cases r with
  | nil =>
    have : (List.range line.length).find? (fun k => !B (line.take (k + 1))) = none := by
      rw [List.find?_eq_none]
      intro k hk
      have := pre k (by have := List.mem_range.mp hk; rw [e] at this; simpa using this)
      simp [this]
    rw [this, e]; simp
  | cons c r =>
    rw [find_first _ _ q.length (by rw [e]; simp) ?_ fun j hj => by simp [pre j hj]]
    · rfl
    · have : line.take (q.length + 1) = q ++ [c] := by rw [e, List.take_append, List.take_of_length_le (by omega)]; simp
      rw [this, hr c r rfl]; rfl
abbrev Ev := Int × List Nat × Int
def lawGo (ev : List Nat → Ev) : List (List Nat) → Nat → Nat → List Ev → Option (List Ev) × Nat × Nat
  | [], _, _, _ => (none, 0, 0)
  | [last], low, k, acc => if last = [] then (some acc, 0, 0) else (none, k + 1, 1 + plc (bg low) last)
  | line :: l2 :: rest, low, k, acc => if bg low (line ++ [10]) = true then lawGo ev (l2 :: rest) (ev line).1.toNat (k + 1) (acc ++ [ev line]) else (none, k + 1, 1 + plc (bg low) (line ++ [10]))
def rdLg (l : List Nat) : Nat → Int → Nat → List Ev → Option (List Ev) × Nat
  | 0, _, a, _ => (none, a)
  | f + 1, low, a, acc => if a < l.length then match rdL low (l.drop a) with
      | (none, k) => (none, a + k)
      | (some x, k) => rdLg l f x.1 (a + k) (acc ++ [x])
    else (some acc, 0)
theorem log_spec {ev : List Nat → Ev} (hev : ∀ low t e n v, VL low t e n (v ++ [10]) → 10 ∉ v → ev v = ((t : Int), e, n)) (s : List Nat) : ∀ (fuel : Nat) (d l : List Nat) (low : Nat) (acc : List Ev), s = d ++ l → l.length < fuel → low ≤ 400 → (d = [] ∨ d.getLast? = some 10) →
    (∃ xs z, rdLg s fuel low d.length acc = (some xs, z) ∧ lawGo ev (spl 10 l) low (d.count 10) acc = (some xs, 0, 0)) ∨
    (∃ d' q r, s = d' ++ q ++ r ∧ 10 ∉ q ∧ (d' = [] ∨ d'.getLast? = some 10) ∧ rdLg s fuel low d.length acc = (none, (d' ++ q).length) ∧ lawGo ev (spl 10 l) low (d.count 10) acc = (none, d'.count 10 + 1, 1 + q.length))
  | 0, d, l, low, acc, _, h, _, _ => by omega
  | f + 1, d, l, low, acc, hs, hf, h400, hd => by
    rw [rdLg]
    cases l with
    | nil =>
      left
      refine ⟨acc, 0, ?_, ?_⟩
      · rw [if_neg (by rw [hs]; simp)]
      · simp [spl, lawGo]
    | cons c0 l0 =>
      rw [if_pos (by rw [hs]; simp)]
      generalize hl : c0 :: l0 = l at *
      have dr : s.drop d.length = l := by rw [hs]; simp
      rw [dr]
      have ne : l ≠ [] := by rw [← hl]; simp
      rcases rdL_spec h400 l with ⟨t, e, n, v, r', e1, e2, e3, e4⟩ | ⟨q, r', e1, e2, e3, e4, e5⟩
      · rw [e1]
        simp only
        have hv := hev low t e n v e4 e3
        have hb : bg low (v ++ [10]) = true := (bg_iff h400 _).mpr ⟨t, e, n, _, e4, List.prefix_refl _⟩
        have hd' : (d ++ v ++ [10]).getLast? = some 10 := by simp
        have t4 : t ≤ 400 := e4.2.1
        have ih := log_spec hev s f (d ++ v ++ [10]) r' t (acc ++ [((t : Int), e, n)]) (by rw [hs, e2]; simp) (by rw [e2] at hf; simp at hf; omega) t4 (.inr hd')
        have len : (d ++ v ++ [10]).length = d.length + (v ++ [10]).length := by simp [Nat.add_assoc]
        have cnt : (d ++ v ++ [10]).count 10 = d.count 10 + 1 := by
          simp only [List.count_append, List.count_eq_zero_of_not_mem e3]; simp
        rw [len, cnt] at ih
        have go : lawGo ev (spl 10 l) low (d.count 10) acc = lawGo ev (spl 10 r') t (d.count 10 + 1) (acc ++ [((t : Int), e, n)]) := by
          rw [e2, spl_app e3]
          obtain ⟨p, ps, ep⟩ := spl_ne 10 r'
          rw [ep, lawGo, if_pos hb, hv]
          simp
        rw [go]
        exact ih
      · rw [e1]
        simp only
        right
        refine ⟨d, q, r', by rw [hs, e2]; simp, e3, hd, by simp, ?_⟩
        have hq : ∀ s, s <+: q → bg low s = true := fun s h => (bg_iff h400 _).mpr (e4.mono h)
        have hr : ∀ c r'', r' = c :: r'' → bg low (q ++ [c]) = false := fun c r'' h => by
          have := e5 c r'' h
          rw [← bg_iff h400] at this
          simpa using this
        by_cases h10 : 10 ∈ r'
        · obtain ⟨v, r2, er, hv⟩ := List.append_of_mem h10 |> fun _ => List.eq_append_cons_of_mem h10
          have el : l = (q ++ v) ++ 10 :: r2 := by rw [e2, er]; simp
          have no : 10 ∉ q ++ v := by
            intro z
            rcases List.mem_append.mp z with z | z
            · exact e3 z
            · exact hv z
          rw [el, spl_app no]
          obtain ⟨p, ps, ep⟩ := spl_ne 10 r2
          have line : q ++ v ++ [10] = q ++ (v ++ [10]) := by simp
          have hr' : ∀ c r'', v ++ [10] = c :: r'' → bg low (q ++ [c]) = false := fun c r'' h => by
            cases v with
            | nil =>
              simp at h
              rw [← h.1]
              exact hr 10 r2 (by rw [er]; rfl)
            | cons a v =>
              simp at h
              rw [← h.1]
              exact hr a (v ++ 10 :: r2) (by rw [er]; rfl)
          have nb : ¬ bg low (q ++ v ++ [10]) = true := fun z => by
            rw [bg_iff h400] at z
            obtain ⟨c, r3, e⟩ : ∃ c r3, v ++ [10] = c :: r3 := by cases v with
              | nil => exact ⟨_, _, rfl⟩
              | cons a v => exact ⟨_, _, rfl⟩
            have := hr' c r3 e
            rw [line, e] at z
            have z2 := z.mono (s' := q ++ [c]) ⟨r3, by simp⟩
            rw [(bg_iff h400 _).mpr z2] at this
            cases this
          rw [ep, lawGo, if_neg nb, plc_eq line hq hr']
        · have no : 10 ∉ l := by
            intro z
            rw [e2] at z
            rcases List.mem_append.mp z with z | z
            · exact e3 z
            · exact h10 z
          rw [spl_no no, lawGo, if_neg ne, plc_eq e2 hq hr]
end N49

namespace DL
open PySem PySem.Spec PyProof.Rows L2
/-! ## Tools for plain proofs: loops by an invariant -/
theorem forL_inv {g : TDg} {t : TDs} {E : EndsD} (I : List PyData → DS → Prop) (hs : ∀ d r δ (K : DS → Prop), (∀ δ', I r δ' → K δ') → I (d :: r) δ → g d δ fun δ1 => t δ1 { nx := K, rt := E.rt, xc := E.xc, bk := E.nx, ct := K }) (he : ∀ δ, I [] δ → E.nx δ) :
    ∀ (items : List PyData) (δ : DS), I items δ → forL g t items δ E
  | [], δ, h => he δ h
  | d :: r, δ, h => hs d r δ _ (fun δ' h' => forL_inv I hs he r δ' h') h
theorem whileD_inv {tt : TDt} {tb : TDs} {E : EndsD} {δ : DS} (I : Nat → DS → Prop) (h0 : ∃ n, I n δ) (hs : ∀ n δ (K : DS → Prop), (∀ m δ', m < n → I m δ' → K δ') → I n δ → tt δ (fun b => if b = true then tb δ { E with nx := K, ct := K, bk := E.nx } else E.nx δ) (E.xc δ)) : whileD tt tb δ E :=
  ⟨I, h0, fun n δ h => hs n δ (fun δ' => ∃ m, m < n ∧ I m δ') (fun m δ' hm h => ⟨m, hm, h⟩) h⟩
theorem rangeD_zero (lo : Int) : rangeD lo 0 = [] := rfl
theorem rangeD_succ (lo : Int) (n : Nat) : rangeD lo (n + 1) = .int lo :: rangeD (lo + 1) n := by
  unfold rangeD
  rw [List.range_succ_eq_map, List.map_cons, List.map_map]
  congr 1
  · simp
  · apply List.map_congr_left
    intro a _
    simp only [Function.comp]
    congr 1
    omega
theorem forL_range {g : TDg} {t : TDs} {E : EndsD} (I : Nat → DS → Prop) (lo : Int) (n : Nat) (hs : ∀ i δ (K : DS → Prop), i < n → (∀ δ', I (i + 1) δ' → K δ') → I i δ → g (.int (lo + i)) δ fun δ1 => t δ1 { nx := K, rt := E.rt, xc := E.xc, bk := E.nx, ct := K }) (he : ∀ δ, I n δ → E.nx δ) :
    ∀ (δ : DS), I 0 δ → forL g t (rangeD lo n) δ E := by
  have go : ∀ (k i : Nat) (δ : DS), i + k = n → I i δ → forL g t (rangeD (lo + i) k) δ E := by
    intro k
    induction k with
    | zero => intro i δ e h; rw [Nat.add_zero] at e; subst e; exact he δ h
    | succ k ih =>
      intro i δ e h
      rw [rangeD_succ, forL_cons]
      refine hs i δ _ (by omega) (fun δ' h' => ?_) h
      have := ih (i + 1) δ' (by omega) h'
      rwa [show lo + ((i + 1 : Nat) : Int) = lo + i + 1 by omega] at this
  intro δ h
  have := go n 0 δ (by omega) h
  simpa using this
theorem forL_list {g : TDg} {t : TDs} {E : EndsD} (xs : List PyData) (I : Nat → DS → Prop) (hs : ∀ i d δ (K : DS → Prop), xs[i]? = some d → (∀ δ', I (i + 1) δ' → K δ') → I i δ → g d δ fun δ1 => t δ1 { nx := K, rt := E.rt, xc := E.xc, bk := E.nx, ct := K }) (he : ∀ δ, I xs.length δ → E.nx δ) :
    ∀ (δ : DS), I 0 δ → forL g t xs δ E := by
  have go : ∀ (r pre : List PyData) (δ : DS), xs = pre ++ r → I pre.length δ → forL g t r δ E := by
    intro r
    induction r with
    | nil => intro pre δ e h; rw [List.append_nil] at e; subst e; exact he δ h
    | cons d r ih =>
      intro pre δ e h
      rw [forL_cons]
      refine hs pre.length d δ _ (by rw [e]; simp) (fun δ' h' => ?_) h
      exact ih (pre ++ [d]) δ' (by rw [e]; simp) (by simpa using h')
  intro δ h
  exact go xs [] δ rfl h
theorem forL_enum {g : TDg} {t : TDs} {E : EndsD} (xs : List PyData) (I : Nat → DS → Prop) (hs : ∀ (i : Nat) d δ (K : DS → Prop), xs[i]? = some d → (∀ δ', I (i + 1) δ' → K δ') → I i δ → g (.tuple [.int (i : Nat), d]) δ fun δ1 => t δ1 { nx := K, rt := E.rt, xc := E.xc, bk := E.nx, ct := K }) (he : ∀ δ, I xs.length δ → E.nx δ) :
    ∀ (δ : DS), I 0 δ → forL g t (pairsD xs) δ E := by
  have len : (pairsD xs).length = xs.length := pairs_len xs
  intro δ h
  refine forL_list (pairsD xs) I (fun i d δ K hd hK hI => ?_) (fun δ h => he δ (by rwa [len] at h)) δ h
  rw [pairsD_eq, pairsFrom_get] at hd
  cases e : xs[i]? with
  | none => rw [e] at hd; cases hd
  | some x =>
    rw [e] at hd
    simp at hd
    subst hd
    exact hs i x δ K e hK hI
theorem mem_rangeD {lo : Int} {n : Nat} {d : PyData} : d ∈ rangeD lo n ↔ ∃ k : Nat, k < n ∧ d = .int (lo + k) := by
  unfold rangeD
  simp only [List.mem_map, List.mem_range]
  constructor
  · rintro ⟨k, h, rfl⟩; exact ⟨k, h, rfl⟩
  · rintro ⟨k, h, rfl⟩; exact ⟨k, h, rfl⟩
/-! ## Texts as lists of codes -/
def S (l : List Nat) : Str := ⟨l.toArray⟩
theorem S_codes (l : List Nat) : (S l).cps.toList = l := by simp [S]
theorem S_of (s : Str) : S s.cps.toList = s := by cases s; simp [S]
theorem S_len (l : List Nat) : (S l).length = l.length := by simp [S, Str.length]
theorem S_inj {a b : List Nat} (h : S a = S b) : a = b := by
  have := congrArg (fun s : Str => s.cps.toList) h
  simpa [S] using this
theorem S_app (a b : List Nat) : S a ++ S b = S (a ++ b) := by
  show (⟨_⟩ : Str) = _
  simp [S]
theorem S_eq_iff {s : Str} {l : List Nat} : s = S l ↔ s.cps.toList = l := ⟨fun h => by rw [h, S_codes], fun h => by rw [← h, S_of]⟩
theorem startswith_iff (x y : Str) : Txt.startswith x y = y.cps.toList.isPrefixOf x.cps.toList := by
  unfold Txt.startswith
  rw [Bool.eq_iff_iff, List.isPrefixOf_iff_prefix, StrLaws.subAt_eq]
  simp only [Bool.and_eq_true, decide_eq_true_eq, beq_iff_eq, List.drop_zero, Nat.zero_add]
  constructor
  · rintro ⟨_, h⟩
    rw [← h]; exact List.take_prefix _ _
  · rintro h
    refine ⟨h.length_le, ?_⟩
    exact (List.prefix_iff_eq_take.mp h).symm
theorem find_none {x : Str} {c : Nat} (h : c ∉ x.cps.toList) : Txt.find x ⟨#[c]⟩ = -1 := by
  rcases find_whole x ⟨#[c]⟩ with ⟨e, _⟩ | ⟨i, e, hi, _⟩
  · exact e
  · exact absurd (List.mem_of_getElem? ((StrLaws.subAt_one x c i).mp hi)) h
theorem find_at {x : Str} {c : Nat} {a b : List Nat} (e : x.cps.toList = a ++ c :: b) (h : c ∉ a) : Txt.find x ⟨#[c]⟩ = (a.length : Nat) := by
  have at' : x.cps.toList[a.length]? = some c := by rw [e]; simp
  have bel : ∀ k, k < a.length → x.cps.toList[k]? ≠ some c := fun k hk z => by
    rw [e, List.getElem?_append_left hk] at z
    exact h (List.mem_of_getElem? z)
  rcases find_whole x ⟨#[c]⟩ with ⟨_, hn⟩ | ⟨i, e2, hi, hn⟩
  · exact absurd ((StrLaws.subAt_one x c a.length).mpr at') (hn a.length)
  · have h1 := (StrLaws.subAt_one x c i).mp hi
    have : i = a.length := by
      rcases Nat.lt_trichotomy i a.length with g | g | g
      · exact absurd h1 (bel i g)
      · exact g
      · exact absurd ((StrLaws.subAt_one x c a.length).mpr at') (hn a.length g)
    rw [e2, this]
theorem strKind_pos (x : Str) : 1 ≤ Builtin.Str.strKind x := by
  unfold Builtin.Str.strKind
  split
  · omega
  · split <;> omega
/-! ## Plain facts of texts -/
theorem atI_at {α : Type} (l : List α) (n : Nat) : atI l (n : Int) = l[n]? := by
  unfold atI ixN
  rw [if_pos (by omega)]
  by_cases h : n < l.length
  · rw [if_pos (by omega)]
    simp
  · rw [if_neg (by omega)]
    simp [List.getElem?_eq_none_iff.mpr (Nat.le_of_not_lt h)]
theorem slen (s : Str) : s.length = s.cps.toList.length := rfl
theorem str_ext {s t : Str} (h : s.cps.toList = t.cps.toList) : s = t := by
  cases s; cases t
  exact congrArg Str.mk (Array.toList_inj.mp h)
theorem cutS_nat (s : Str) (a b : Nat) : (cutS s (some (a : Int)) (some (b : Int))).cps.toList = (s.cps.toList.drop a).take (b - a) := by
  unfold cutS
  rw [HT.sIx_nat, HT.sIx_nat, slen]
  by_cases h : a ≤ s.cps.toList.length
  · rw [Nat.min_eq_left h]
    by_cases h2 : b ≤ s.cps.toList.length
    · rw [Nat.min_eq_left h2]
    · rw [Nat.min_eq_right (by omega)]
      simp only [List.toList_toArray]
      rw [List.take_of_length_le (by rw [List.length_drop]; omega), List.take_of_length_le (by rw [List.length_drop]; omega)]
  · rw [List.drop_eq_nil_of_le (show s.cps.toList.length ≤ a by omega)]
    simp only [List.toList_toArray]
    rw [Nat.min_eq_right (show s.cps.toList.length ≤ a by omega), List.drop_eq_nil_of_le (Nat.le_refl _)]
    simp
theorem cutS_to (s : Str) (b : Nat) : (cutS s none (some (b : Int))).cps.toList = s.cps.toList.take b := by
  unfold cutS
  rw [HT.sIx_nat, HT.sIx_none, slen]
  simp only [List.toList_toArray, List.drop_zero, Nat.sub_zero]
  by_cases h2 : b ≤ s.cps.toList.length
  · rw [Nat.min_eq_left h2]
  · rw [Nat.min_eq_right (by omega), List.take_of_length_le (Nat.le_refl _), List.take_of_length_le (by omega)]
theorem cutS_from (s : Str) (a : Nat) : (cutS s (some (a : Int)) none).cps.toList = s.cps.toList.drop a := by
  unfold cutS
  rw [HT.sIx_nat, HT.sIx_none, slen]
  simp only [List.toList_toArray]
  by_cases h2 : a ≤ s.cps.toList.length
  · rw [Nat.min_eq_left h2, List.take_of_length_le (by simp)]
  · rw [Nat.min_eq_right (by omega), List.drop_eq_nil_of_le (Nat.le_refl _), List.drop_eq_nil_of_le (by omega)]
    simp
/-! ## One character sought -/
open PySem.StrLaws Builtin Builtin.Str
def chr1 (c : Nat) : Str := ⟨#[c]⟩
def posFrom (c : Nat) : Nat → List Nat → List Nat
  | _, [] => []
  | k, a :: r => if a = c then k :: posFrom c (k + 1) r else posFrom c (k + 1) r
theorem posFrom_len (c : Nat) : ∀ (l : List Nat) (k : Nat), (posFrom c k l).length = l.count c
  | [], _ => rfl
  | a :: r, k => by
    unfold posFrom
    by_cases h : a = c
    · simp [h, posFrom_len c r]
    · simp [h, posFrom_len c r]
theorem posFrom_filter (c : Nat) : ∀ (l : List Nat) (k : Nat) (f : Nat → Bool), (∀ i, f (k + i) = decide (l[i]? = some c)) → (List.range' k (l.length + 1)).filter f = posFrom c k l
  | [], k, f, h => by
    have := h 0
    simp at this
    simp [posFrom, this]
  | a :: r, k, f, h => by
    have h0 := h 0
    simp at h0
    have ih := posFrom_filter c r (k + 1) f (fun i => by
      have := h (i + 1)
      rw [show k + (i + 1) = k + 1 + i by omega] at this
      simpa using this)
    rw [List.length_cons, List.range'_succ, List.filter_cons, h0, posFrom]
    by_cases e : a = c
    · simp [e, ih]
    · simp [e, ih]
theorem occ_run1 (x : Str) (c limit : Nat) : ∀ (l : List Nat) (acc : Array Nat) (free : Nat), (∀ i ∈ l, free ≤ i) → l.Pairwise (· < ·) → acc.size + l.length ≤ limit →
    (forIn l (acc, free) (occBody x (chr1 c) x.length limit)).run.fst.toList = acc.toList ++ l.filter fun i => decide (x.cps.toList[i]? = some c)
  | [], acc, free, _, _, _ => by simp
  | a :: l, acc, free, hf, hp, hs => by
    rw [List.forIn_cons]
    have ha : free ≤ a := hf a (List.mem_cons_self ..)
    have hp' := List.pairwise_cons.mp hp
    simp only [List.length_cons] at hs
    by_cases hc : a + (chr1 c).length ≤ x.length ∧ subAt x (chr1 c) a = true
    · have eb : occBody x (chr1 c) x.length limit a (acc, free) = pure (ForInStep.yield (acc.push a, a + (chr1 c).length)) := by
        unfold occBody
        rw [if_pos ⟨⟨⟨by show acc.size < limit; omega, ha⟩, hc.1⟩, hc.2⟩]
      rw [eb]
      have e := (subAt_one x c a).mp hc
      have := occ_run1 x c limit l (acc.push a) (a + (chr1 c).length) (fun i hi => hp'.1 i hi) hp'.2 (by simp; omega)
      rw [List.filter_cons_of_pos (by simpa using e)]
      simpa using this
    · have eb : occBody x (chr1 c) x.length limit a (acc, free) = pure (ForInStep.yield (acc, free)) := by
        unfold occBody
        rw [if_neg fun h => hc ⟨h.1.2, h.2⟩]
      rw [eb]
      have e : ¬ x.cps.toList[a]? = some c := fun h => hc ((subAt_one x c a).mpr h)
      have := occ_run1 x c limit l acc free (fun i hi => hf i (List.mem_cons_of_mem _ hi)) hp'.2 (by omega)
      rw [List.filter_cons_of_neg (by simpa using e)]
      exact this
theorem occ_one (x : Str) (c : Nat) : occurrences x (chr1 c) 0 x.length (x.length + 1) = posFrom c 0 x.cps.toList := by
  rw [occ_eq]
  have h1 : (List.range' 0 (x.length + 1)).Pairwise (· < ·) := List.pairwise_lt_range'
  have h2 : (List.range' 0 (x.length + 1)).length ≤ x.length + 1 := Nat.le_of_eq List.length_range'
  have := occ_run1 x c (x.length + 1) (List.range' 0 (x.length + 1 - 0)) #[] 0 (fun _ _ => Nat.zero_le _) h1 (by simpa using h2)
  rw [this]
  have := posFrom_filter c x.cps.toList 0 (fun i => decide (x.cps.toList[i]? = some c)) (fun i => by rw [Nat.zero_add])
  rw [← slen] at this
  simpa only [Array.toList_empty, List.nil_append, Nat.sub_zero] using this
theorem count_one (x : Str) (c : Nat) : Txt.count x (chr1 c) = (x.cps.toList.count c : Nat) := by
  unfold Txt.count
  rw [occ_one, posFrom_len]
/-- where the last one stands -/
theorem rfind_split (x : Str) (c : Nat) (p q : List Nat) (h : x.cps.toList = p ++ q) (hq : c ∉ q) (hp : p = [] ∨ p.getLast? = some c) : Txt.rfind x (chr1 c) = (p.length : Int) - 1 := by
  unfold Txt.rfind
  have out : ∀ i, p.length ≤ i → x.cps.toList[i]? ≠ some c := fun i hi e => by
    rw [h, List.getElem?_append_right hi] at e
    exact hq (List.mem_of_getElem? e)
  rcases last_spec x (chr1 c) with ⟨e, hn⟩ | ⟨i, e, ha, hn⟩
  · rw [e]
    rcases hp with rfl | hp
    · rfl
    · exfalso
      refine hn (p.length - 1) ((subAt_one x c _).mpr ?_)
      have hl : p.length ≠ 0 := fun h0 => by rw [List.length_eq_zero_iff.mp h0] at hp; simp at hp
      rw [h, List.getElem?_append_left (by omega), ← List.getLast?_eq_getElem?]
      exact hp
  · rw [e]
    have hi := (subAt_one x c i).mp ha
    have hlt : i < p.length := by
      rcases Nat.lt_or_ge i p.length with g | g
      · exact g
      · exact absurd hi (out i g)
    rcases hp with rfl | hp
    · simp at hlt
    · have : ¬ i < p.length - 1 := fun g => hn _ g ((subAt_one x c _).mpr (by
        rw [h, List.getElem?_append_left (by omega), ← List.getLast?_eq_getElem?]
        exact hp))
      simp only
      omega
theorem spl_parts (x : Str) (c : Nat) : ∀ (r pre p : List Nat) (a : Nat), x.cps.toList = pre ++ r → a ≤ pre.length → p = pre.drop a → StrLaws.partsFrom x 1 a (posFrom c pre.length r) = (match N49.spl c r with | h :: t => (S (p ++ h)) :: t.map S | [] => [])
  | [], pre, p, a, e, ha, hp => by
    rw [List.append_nil] at e
    simp only [posFrom, StrLaws.partsFrom, N49.spl, List.append_nil, List.map_nil]
    congr 1
    apply S_eq_iff.mpr
    rw [StrLaws.strSub_toList, e, ← hp]
    exact List.take_of_length_le (by rw [hp, List.length_drop, slen, e]; omega)
  | b :: r, pre, p, a, e, ha, hp => by
    have e' : x.cps.toList = (pre ++ [b]) ++ r := by rw [e]; simp
    have ll : (pre ++ [b]).length = pre.length + 1 := by simp
    rw [posFrom, N49.spl]
    by_cases h : b = c
    · rw [if_pos h, if_pos h]
      simp only [StrLaws.partsFrom, List.append_nil]
      have ih := spl_parts x c r (pre ++ [b]) [] (pre.length + 1) e' (by omega) (by simp)
      rw [ll] at ih
      rw [ih]
      obtain ⟨q, qs, eq⟩ := N49.spl_ne c r
      rw [eq]
      simp only [List.nil_append, List.map_cons]
      congr 1
      apply S_eq_iff.mpr
      rw [StrLaws.strSub_toList, e, hp, List.drop_append_of_le_length ha, List.take_left' (by rw [List.length_drop])]
    · rw [if_neg h, if_neg h]
      have ih := spl_parts x c r (pre ++ [b]) (p ++ [b]) a e' (by omega) (by rw [hp, List.drop_append_of_le_length ha])
      rw [ll] at ih
      rw [ih]
      obtain ⟨q, qs, eq⟩ := N49.spl_ne c r
      rw [eq]
      simp
theorem posFrom_nil (c : Nat) : ∀ (l : List Nat) (k : Nat), posFrom c k l = [] → c ∉ l
  | [], _, _ => by simp
  | a :: r, k, h => by
    unfold posFrom at h
    split at h
    · cases h
    · rename_i ha
      have := posFrom_nil c r (k + 1) h
      intro z
      rcases List.mem_cons.mp z with rfl | z
      · exact ha rfl
      · exact this z
theorem split_one (x : Str) {c : Nat} (hc : c < 256) : Txt.split x (chr1 c) = (N49.spl c x.cps.toList).map S := by
  unfold Txt.split
  have k1 : Builtin.Str.strKind (chr1 c) = 1 := by simp [Builtin.Str.strKind, chr1, hc]
  have k2 := strKind_pos x
  split
  · rename_i h
    have : x.length < 1 := by
      simp only [Bool.or_eq_true, decide_eq_true_eq] at h
      rcases h with h | h
      · exact h
      · omega
    have e : x.cps.toList = [] := List.length_eq_zero_iff.mp (by rw [← slen]; omega)
    rw [e]
    simp only [N49.spl, List.map_cons, List.map_nil]
    rw [← S_of x, e]
  · rw [occ_one]
    split
    · rename_i h
      have h' : posFrom c 0 x.cps.toList = [] := List.isEmpty_iff.mp h
      rw [N49.spl_no (posFrom_nil c _ _ h')]
      simp [S_of]
    · rw [StrLaws.partsBetween_eq]
      have := spl_parts x c x.cps.toList [] [] 0 rfl (Nat.le_refl 0) rfl
      simp only [List.length_nil] at this
      rw [show (chr1 c).length = 1 from rfl, this]
      obtain ⟨q, qs, eq⟩ := N49.spl_ne c x.cps.toList
      rw [eq]
      simp
/-! ## Data of small depth: == -/
def shp (n : Nat) (d : PyData) : Prop := PyData.canLay0 d = true ∧ PyData.depth d ≤ n
theorem shp_int (n : Nat) (i : Int) : shp n (.int i) := ⟨by simp [PyData.canLay0], by simp [PyData.depth]⟩
theorem shp_bool (n : Nat) (i : Bool) : shp n (.bool i) := ⟨by simp [PyData.canLay0], by simp [PyData.depth]⟩
theorem shp_none (n : Nat) : shp n .none := ⟨by simp [PyData.canLay0], by simp [PyData.depth]⟩
theorem shp_str (n : Nat) {s : Str} (h : PyData.strOk s = true) : shp n (.str s) := ⟨by simpa [PyData.canLay0] using h, by simp [PyData.depth]⟩
theorem shp_all {n : Nat} : ∀ {xs : List PyData}, (∀ x ∈ xs, shp n x) → PyData.canLayAll0 xs = true ∧ PyData.depthAll xs ≤ n
  | [], _ => ⟨by simp [PyData.canLayAll0], by simp [PyData.depthAll]⟩
  | x :: xs, h => by
    have h1 := h x (by simp)
    have h2 := shp_all (xs := xs) fun y hy => h y (by simp [hy])
    exact ⟨by simp [PyData.canLayAll0, h1.1, h2.1], by simp only [PyData.depthAll]; have := h1.2; have := h2.2; omega⟩
theorem shp_tup {n : Nat} {xs : List PyData} (h : ∀ x ∈ xs, shp n x) : shp (n + 1) (.tuple xs) :=
  ⟨by simpa [PyData.canLay0] using (shp_all h).1, by simp only [PyData.depth]; have := (shp_all h).2; omega⟩
theorem shp_lst {n : Nat} {xs : List PyData} (h : ∀ x ∈ xs, shp n x) : shp (n + 1) (.list xs) :=
  ⟨by simpa [PyData.canLay0] using (shp_all h).1, by simp only [PyData.depth]; have := (shp_all h).2; omega⟩
theorem shp.mono {n m : Nat} {d : PyData} (h : shp n d) (l : n ≤ m) : shp m d := ⟨h.1, Nat.le_trans h.2 l⟩
theorem shp.ok {n : Nat} {d : PyData} (h : shp n d) (l : n ≤ 64) : SeqAt.shaped d = true := by
  unfold SeqAt.shaped
  rw [h.1, Bool.true_and, decide_eq_true_eq]
  exact Nat.le_trans h.2 l
theorem eqD_same {n : Nat} {d : PyData} (h : shp n d) (l : n ≤ 64) (R : SV → Prop) : eqD d d R = R (.d (.bool true)) := by
  have := h.ok l
  simp [eqD, eqOk, this, SeqAt.eqv_refl d h.1]
theorem neD_same {n : Nat} {d : PyData} (h : shp n d) (l : n ≤ 64) (R : SV → Prop) : neD d d R = R (.d (.bool false)) := by
  have := h.ok l
  simp [neD, eqOk, this, SeqAt.eqv_refl d h.1]
@[simp] theorem eqD_nn (R : SV → Prop) : eqD .none .none R = R (.d (.bool true)) := by simp [eqD, eqOk, scalD, PyData.eqv]
@[simp] theorem neD_nn (R : SV → Prop) : neD .none .none R = R (.d (.bool false)) := by simp [neD, eqOk, scalD, PyData.eqv]
@[simp] theorem neD_ni (i : Int) (R : SV → Prop) : neD .none (.int i) R = R (.d (.bool true)) := by simp [neD, eqOk, scalD, PyData.eqv]
@[simp] theorem neD_in (i : Int) (R : SV → Prop) : neD (.int i) .none R = R (.d (.bool true)) := by simp [neD, eqOk, scalD, PyData.eqv]
@[simp] theorem eqD_ni (i : Int) (R : SV → Prop) : eqD .none (.int i) R = R (.d (.bool false)) := by simp [eqD, eqOk, scalD, PyData.eqv]
@[simp] theorem eqD_in (i : Int) (R : SV → Prop) : eqD (.int i) .none R = R (.d (.bool false)) := by simp [eqD, eqOk, scalD, PyData.eqv]
@[simp] theorem eqD_bool (i j : Bool) (R : SV → Prop) : eqD (.bool i) (.bool j) R = R (.d (.bool (i == j))) := by simp [eqD, eqOk, scalD, PyData.eqv]
@[simp] theorem neD_bool (i j : Bool) (R : SV → Prop) : neD (.bool i) (.bool j) R = R (.d (.bool (!(i == j)))) := by simp [neD, eqOk, scalD, PyData.eqv]
@[simp] theorem ixV_tk (b : Addr) (ds : List PyData) (i : Int) (R : SV → Prop) : ixV (.tk b ds) (.d (.int i)) R = (match atI ds i with | some z => R (.d z) | none => False) := rfl
@[simp] theorem setAt_tk (b : Addr) (xs : List PyData) (k : Int) (d : PyData) (R : SV → Prop) : setAt (.tk b xs) k d R = (match ixN xs.length k with | some j => R (.tk b (xs.set j d)) | none => False) := rfl
@[simp] theorem setAt_own (xs : List PyData) (k : Int) (d : PyData) (R : SV → Prop) : setAt (.own xs) k d R = (match ixN xs.length k with | some j => R (.own (xs.set j d)) | none => False) := rfl
theorem cutL_to {α : Type} (xs : List α) (b : Nat) : cutL xs none (some (b : Int)) = xs.take b := by
  unfold cutL
  rw [HT.sIx_none, HT.sIx_nat, List.drop_zero, Nat.sub_zero]
  by_cases h : b ≤ xs.length
  · rw [Nat.min_eq_left h]
  · rw [Nat.min_eq_right (by omega), List.take_of_length_le (Nat.le_refl _), List.take_of_length_le (by omega)]
theorem cutL_from {α : Type} (xs : List α) (a : Nat) : cutL xs (some (a : Int)) none = xs.drop a := by
  unfold cutL
  rw [HT.sIx_none, HT.sIx_nat]
  by_cases h : a ≤ xs.length
  · rw [Nat.min_eq_left h, List.take_of_length_le (by simp)]
  · rw [Nat.min_eq_right (by omega), List.drop_eq_nil_of_le (show xs.length ≤ a by omega), List.drop_eq_nil_of_le (Nat.le_refl _)]; simp
theorem cutL_mid {α : Type} (xs : List α) (a b : Nat) : cutL xs (some (a : Int)) (some (b : Int)) = (xs.drop a).take (b - a) := by
  unfold cutL
  rw [HT.sIx_nat, HT.sIx_nat]
  by_cases h : a ≤ xs.length
  · rw [Nat.min_eq_left h]
    by_cases h2 : b ≤ xs.length
    · rw [Nat.min_eq_left h2]
    · rw [Nat.min_eq_right (by omega), List.take_of_length_le (by simp), List.take_of_length_le (by simp; omega)]
  · rw [Nat.min_eq_right (show xs.length ≤ a by omega), List.drop_eq_nil_of_le (show xs.length ≤ a by omega), List.drop_eq_nil_of_le (Nat.le_refl _)]; simp
theorem cutL_front {α : Type} (xs : List α) : cutL xs none (some (-1)) = xs.dropLast := by
  unfold cutL
  rw [HT.sIx_none, List.drop_zero, Nat.sub_zero, List.dropLast_eq_take]
  congr 1
  simp [HT.sIx]
  omega
end DL

namespace N50
/-! ## Matchings of sent and arrived messages: lists of numbers -/
theorem nodup_sub {α : Type} [DecidableEq α] : ∀ {l m : List α}, l.Nodup → (∀ x ∈ l, x ∈ m) → l.length ≤ m.length
  | [], _, _, _ => by simp
  | a :: l, m, h, hs => by
    rw [List.nodup_cons] at h
    have ha := hs a (by simp)
    have := nodup_sub (l := l) (m := m.erase a) h.2 fun x hx => by
      have hne : x ≠ a := fun e => h.1 (e ▸ hx)
      exact (List.mem_erase_of_ne hne).mpr (hs x (by simp [hx]))
    rw [List.length_erase_of_mem ha] at this
    have := List.length_pos_of_mem ha
    simp; omega
theorem nodup_len {α : Type} [DecidableEq α] {l m : List α} (h : l.Nodup) (h' : m.Nodup) (e : ∀ x, x ∈ l ↔ x ∈ m) : l.length = m.length :=
  Nat.le_antisymm (nodup_sub h fun x hx => (e x).mp hx) (nodup_sub h' fun x hx => (e x).mpr hx)
/-- two ascending lists of the same numbers are one -/
theorem asc_ext {α : Type} {r : α → α → Prop} (irr : ∀ a, ¬ r a a) (as : ∀ a b, r a b → r b a → False) : ∀ {l m : List α}, l.Pairwise r → m.Pairwise r → (∀ x, x ∈ l ↔ x ∈ m) → l = m
  | [], [], _, _, _ => rfl
  | [], b :: m, _, _, e => absurd ((e b).mpr (by simp)) (by simp)
  | a :: l, [], _, _, e => absurd ((e a).mp (by simp)) (by simp)
  | a :: l, b :: m, h, h', e => by
    rw [List.pairwise_cons] at h h'
    have hab : a = b := by
      rcases List.mem_cons.mp ((e a).mp (by simp)) with q | q
      · exact q
      · rcases List.mem_cons.mp ((e b).mpr (by simp)) with q2 | q2
        · exact q2.symm
        · exact (as a b (h.1 b q2) (h'.1 a q)).elim
    subst hab
    congr 1
    refine asc_ext irr as h.2 h'.2 fun x => ?_
    constructor
    · intro hx
      rcases List.mem_cons.mp ((e x).mp (by simp [hx])) with q | q
      · subst q; exact (irr _ (h.1 _ hx)).elim
      · exact q
    · intro hx
      rcases List.mem_cons.mp ((e x).mpr (by simp [hx])) with q | q
      · subst q; exact (irr _ (h'.1 _ hx)).elim
      · exact q
theorem asc_nodup {l : List Nat} (h : l.Pairwise (· < ·)) : l.Nodup := h.imp fun h => Nat.ne_of_lt h
section
variable (S A : List Int) (L : Int)
def part (s a : Int) : Bool := decide (s ≤ a) && decide (a ≤ s + L)
/-- the partners of a send, of an arrival -/
def sRow (s : Int) : List Nat := (List.range A.length).filter fun k => part L s (A.getD k 0)
def aRow (a : Int) : List Nat := (List.range S.length).filter fun k => part L (S.getD k 0) a
def sRows : List (List Nat) := S.map fun s => sRow A L s
def aRows : List (List Nat) := A.map fun a => aRow S L a
theorem mem_sRow {s : Int} {k : Nat} : k ∈ sRow A L s ↔ k < A.length ∧ s ≤ A.getD k 0 ∧ A.getD k 0 ≤ s + L := by simp [sRow, part]
theorem mem_aRow {a : Int} {k : Nat} : k ∈ aRow S L a ↔ k < S.length ∧ S.getD k 0 ≤ a ∧ a ≤ S.getD k 0 + L := by simp [aRow, part]
theorem sRow_asc (s : Int) : (sRow A L s).Pairwise (· < ·) := List.pairwise_lt_range.filter _
theorem aRow_asc (a : Int) : (aRow S L a).Pairwise (· < ·) := List.pairwise_lt_range.filter _
/-- beyond the sends that are too old -/
def skip (a : Int) : Nat → Nat → Nat
  | 0, p => p
  | f + 1, p => if p < S.length ∧ S.getD p 0 + L < a then skip a f (p + 1) else p
def grd : Nat → List Int → List (Option Nat)
  | _, [] => []
  | p, a :: r => if skip S L a S.length p < S.length ∧ S.getD (skip S L a S.length p) 0 ≤ a then some (skip S L a S.length p) :: grd (skip S L a S.length p + 1) r else none :: grd (skip S L a S.length p) r
/-- .. as the law finds it: the first partner that is not taken yet -/
def tkn : List (Option Nat) → List Int → List (Option Nat)
  | _, [] => []
  | pre, a :: r => ((aRow S L a).find? fun k => !pre.contains (some k)) :: tkn (pre ++ [(aRow S L a).find? fun k => !pre.contains (some k)]) r
end
variable {S A : List Int} {L : Int}
theorem skip_spec {a : Int} : ∀ (f p : Nat), S.length ≤ p + f → p ≤ skip S L a f p ∧ (∀ q, p ≤ q → q < skip S L a f p → q < S.length ∧ S.getD q 0 + L < a) ∧ (skip S L a f p < S.length → a ≤ S.getD (skip S L a f p) 0 + L)
  | 0, p, h => by
    simp only [skip]
    exact ⟨Nat.le_refl _, fun q h1 h2 => by omega, fun h2 => by omega⟩
  | f + 1, p, h => by
    rw [skip]
    split
    · rename_i hc
      obtain ⟨h1, h2, h3⟩ := skip_spec (a := a) f (p + 1) (by omega)
      refine ⟨by omega, fun q g1 g2 => ?_, h3⟩
      rcases Nat.eq_or_lt_of_le g1 with e | g1
      · subst e; exact hc
      · exact h2 q g1 g2
    · rename_i hc
      refine ⟨Nat.le_refl _, fun q h1 h2 => by omega, fun h2 => ?_⟩
      by_cases g : S.getD p 0 + L < a
      · exact absurd ⟨h2, g⟩ hc
      · omega
def Asc (l : List Int) : Prop := ∀ i j, i ≤ j → j < l.length → l.getD i 0 ≤ l.getD j 0
/-- what is known ahead of an arrival: p the place; what stands before it is taken or too old -/
structure Ahead (S : List Int) (L : Int) (pre : List (Option Nat)) (p : Nat) (low : Int) : Prop where
  tk : ∀ k, some k ∈ pre → k < p
  old : ∀ q, q < p → some q ∈ pre ∨ (q < S.length ∧ S.getD q 0 + L < low)
theorem grd_tkn (hS : Asc S) : ∀ (r : List Int) (pre : List (Option Nat)) (p : Nat) (low : Int), Ahead S L pre p low → (∀ a ∈ r, low ≤ a) → r.Pairwise (· ≤ ·) → grd S L p r = tkn S L pre r
  | [], _, _, _, _, _, _ => rfl
  | a :: r, pre, p, low, hA, hl, hr => by
    rw [List.pairwise_cons] at hr
    have la := hl a (by simp)
    obtain ⟨h1, h2, h3⟩ := skip_spec (S := S) (L := L) (a := a) S.length p (by omega)
    rw [grd, tkn]
    generalize skip S L a S.length p = k at h1 h2 h3
    by_cases hc : k < S.length ∧ S.getD k 0 ≤ a
    · have hk : (aRow S L a).find? (fun k => !pre.contains (some k)) = some k := by
        have mk : k ∈ aRow S L a := (mem_aRow S L).mpr ⟨hc.1, hc.2, h3 hc.1⟩
        obtain ⟨u, v, e⟩ := List.append_of_mem mk
        rw [List.find?_eq_some_iff_append]
        refine ⟨?_, u, v, e, fun q hq => ?_⟩
        · have : some k ∉ pre := fun z => by have := hA.tk k z; omega
          simpa using this
        · have asc := aRow_asc S L a
          rw [e] at asc
          have hqk : q < k := (List.pairwise_append.mp asc).2.2 q hq k (by simp)
          have mq : q ∈ aRow S L a := by rw [e]; simp [hq]
          obtain ⟨q1, q2, q3⟩ := (mem_aRow S L).mp mq
          have : some q ∈ pre := by
            rcases Nat.lt_or_ge q p with g | g
            · rcases hA.old q g with z | ⟨_, z⟩
              · exact z
              · omega
            · have := (h2 q g hqk).2; omega
          simpa using this
      rw [if_pos hc, hk]
      congr 1
      refine grd_tkn hS r _ _ a ⟨fun j hj => ?_, fun q hq => ?_⟩ hr.1 hr.2
      · rcases List.mem_append.mp hj with hj | hj
        · have := hA.tk j hj; omega
        · simp at hj; omega
      · rcases Nat.eq_or_lt_of_le (Nat.le_of_lt_succ hq) with e | g
        · left; simp [e]
        · rcases Nat.lt_or_ge q p with g2 | g2
          · rcases hA.old q g2 with z | ⟨z1, z2⟩
            · left; simp [z]
            · right; exact ⟨z1, by omega⟩
          · right; exact h2 q g2 g
    · have hk : (aRow S L a).find? (fun k => !pre.contains (some k)) = none := by
        rw [List.find?_eq_none]
        intro q hq
        obtain ⟨q1, q2, q3⟩ := (mem_aRow S L).mp hq
        have : some q ∈ pre := by
          rcases Nat.lt_or_ge q p with g | g
          · rcases hA.old q g with z | ⟨_, z⟩
            · exact z
            · omega
          · rcases Nat.lt_or_ge q k with g2 | g2
            · have := (h2 q g g2).2; omega
            · have := hS k q g2 q1
              have : S.getD k 0 ≤ a := by omega
              exact absurd ⟨by omega, this⟩ hc
        simpa using this
      rw [if_neg hc, hk]
      congr 1
      refine grd_tkn hS r _ _ a ⟨fun j hj => ?_, fun q hq => ?_⟩ hr.1 hr.2
      · rcases List.mem_append.mp hj with hj | hj
        · have := hA.tk j hj; omega
        · simp at hj
      · rcases Nat.lt_or_ge q p with g2 | g2
        · rcases hA.old q g2 with z | ⟨z1, z2⟩
          · left; simp [z]
          · right; exact ⟨z1, by omega⟩
        · right; exact h2 q g2 hq
/-! ### the greatest matching -/
def pts (S : List Int) (L : Int) : Nat → List Int → List Nat
  | _, [] => []
  | p, a :: r => skip S L a S.length p :: if skip S L a S.length p < S.length ∧ S.getD (skip S L a S.length p) 0 ≤ a then pts S L (skip S L a S.length p + 1) r else pts S L (skip S L a S.length p) r
structure Fact (S A : List Int) (L : Int) (T : List (Option Nat)) (P : List Nat) (k : Nat) : Prop where
  ex : ∃ o, T[k]? = some o
  h1 : ∀ s, T[k]? = some (some s) → s = P.getD k 0 ∧ s < S.length ∧ S.getD s 0 ≤ A.getD k 0 ∧ A.getD k 0 ≤ S.getD s 0 + L
  h2 : T[k]? = some none → S.length ≤ P.getD k 0 ∨ A.getD k 0 < S.getD (P.getD k 0) 0
  h3 : ∀ i, i < k → P.getD i 0 ≤ P.getD k 0 ∧ ∀ s, T[i]? = some (some s) → s < P.getD k 0
  h4 : ∀ q, q < P.getD k 0 → (∃ j, j < k ∧ T[j]? = some (some q)) ∨ (q < S.length ∧ ∃ i, i ≤ k ∧ S.getD q 0 + L < A.getD i 0 ∧ ∀ i', i' < i → P.getD i' 0 ≤ q)
theorem hist (hS : Asc S) {T : List (Option Nat)} {P : List Nat} : ∀ (m n p : Nat), A.length = n + m → T.drop n = grd S L p (A.drop n) → P.drop n = pts S L p (A.drop n) →
    (∀ i, i < n → P.getD i 0 ≤ p ∧ ∀ s, T[i]? = some (some s) → s < p) →
    (∀ q, q < p → (∃ j, j < n ∧ T[j]? = some (some q)) ∨ (q < S.length ∧ ∃ i, i < n ∧ S.getD q 0 + L < A.getD i 0 ∧ ∀ i', i' < i → P.getD i' 0 ≤ q)) →
    ∀ k, n ≤ k → k < A.length → Fact S A L T P k
  | 0, n, p, hm, _, _, _, _, k, h1, h2 => by omega
  | m + 1, n, p, hm, hT, hP, i1, i4, k, hnk, hk => by
    have hn : n < A.length := by omega
    have eA : A.drop n = A.getD n 0 :: A.drop (n + 1) := by
      rw [List.drop_eq_getElem_cons hn]; simp [hn]
    rw [eA, grd] at hT
    rw [eA, pts] at hP
    obtain ⟨g1, g2, g3⟩ := skip_spec (S := S) (L := L) (a := A.getD n 0) S.length p (by omega)
    generalize hw : skip S L (A.getD n 0) S.length p = w at hT hP g1 g2 g3
    have hPn : P.getD n 0 = w := by
      have : P[n]? = some w := by rw [← List.head?_drop, hP]; rfl
      simp [List.getD, this]
    have h4 : ∀ q, q < w → (∃ j, j < n ∧ T[j]? = some (some q)) ∨ (q < S.length ∧ ∃ i, i ≤ n ∧ S.getD q 0 + L < A.getD i 0 ∧ ∀ i', i' < i → P.getD i' 0 ≤ q) := fun q hq => by
      rcases Nat.lt_or_ge q p with z | z
      · rcases i4 q z with ⟨j, a, b⟩ | ⟨l, i, a, b, c⟩
        · exact .inl ⟨j, a, b⟩
        · exact .inr ⟨l, i, by omega, b, c⟩
      · exact .inr ⟨(g2 q z hq).1, n, Nat.le_refl _, (g2 q z hq).2, fun i' hi => by have := (i1 i' hi).1; omega⟩
    have h3 : ∀ i, i < n → P.getD i 0 ≤ w ∧ ∀ s, T[i]? = some (some s) → s < w := fun i hi => by
      obtain ⟨a, b⟩ := i1 i hi
      exact ⟨by omega, fun s hs => by have := b s hs; omega⟩
    by_cases hc : w < S.length ∧ S.getD w 0 ≤ A.getD n 0
    · rw [if_pos hc] at hT hP
      have hTn : T[n]? = some (some w) := by rw [← List.head?_drop, hT]; rfl
      have fact : Fact S A L T P n := ⟨⟨_, hTn⟩, fun s hs => by
        rw [hTn] at hs; cases hs
        exact ⟨hPn.symm, hc.1, hc.2, g3 hc.1⟩, fun z => (by rw [hTn] at z; cases z), fun i hi => by rw [hPn]; exact h3 i hi, fun q hq => by rw [hPn] at hq; exact h4 q hq⟩
      rcases Nat.eq_or_lt_of_le hnk with e | g
      · subst e; exact fact
      · refine hist hS m (n + 1) (w + 1) (by omega) ?_ ?_ (fun i hi => ?_) (fun q hq => ?_) k (by omega) hk
        · rw [← List.drop_drop, hT]; rfl
        · rw [← List.drop_drop, hP]; rfl
        · rcases Nat.eq_or_lt_of_le (Nat.le_of_lt_succ hi) with e | g
          · subst e
            rw [hPn]
            exact ⟨by omega, fun s hs => by rw [hTn] at hs; cases hs; omega⟩
          · obtain ⟨a, b⟩ := h3 i g
            exact ⟨by omega, fun s hs => by have := b s hs; omega⟩
        · rcases Nat.eq_or_lt_of_le (Nat.le_of_lt_succ hq) with e | g
          · subst e; exact .inl ⟨n, by omega, hTn⟩
          · rcases h4 q g with ⟨j, a, b⟩ | ⟨l, i, a, b, c⟩
            · exact .inl ⟨j, by omega, b⟩
            · exact .inr ⟨l, i, by omega, b, c⟩
    · rw [if_neg hc] at hT hP
      have hTn : T[n]? = some none := by rw [← List.head?_drop, hT]; rfl
      have fact : Fact S A L T P n := ⟨⟨_, hTn⟩, fun s hs => (by rw [hTn] at hs; cases hs), fun _ => (by
        rw [hPn]
        by_cases z : w < S.length
        · right
          have : ¬ S.getD w 0 ≤ A.getD n 0 := fun y => hc ⟨z, y⟩
          omega
        · left; omega), fun i hi => by rw [hPn]; exact h3 i hi, fun q hq => by rw [hPn] at hq; exact h4 q hq⟩
      rcases Nat.eq_or_lt_of_le hnk with e | g
      · subst e; exact fact
      · refine hist hS m (n + 1) w (by omega) ?_ ?_ (fun i hi => ?_) (fun q hq => ?_) k (by omega) hk
        · rw [← List.drop_drop, hT]; rfl
        · rw [← List.drop_drop, hP]; rfl
        · rcases Nat.eq_or_lt_of_le (Nat.le_of_lt_succ hi) with e | g
          · subst e
            rw [hPn]
            exact ⟨by omega, fun s hs => by rw [hTn] at hs; cases hs⟩
          · exact h3 i g
        · rcases h4 q hq with ⟨j, a, b⟩ | ⟨l, i, a, b, c⟩
          · exact .inl ⟨j, by omega, b⟩
          · exact .inr ⟨l, i, by omega, b, c⟩
theorem grd_len : ∀ (p : Nat) (r : List Int), (grd S L p r).length = r.length
  | _, [] => rfl
  | p, a :: r => by
    rw [grd]; split <;> simp [grd_len]
/-- what holds of the matching: T the sends that the arrivals took -/
structure Mat (S A : List Int) (L : Int) (T : List (Option Nat)) : Prop where
  len : T.length = A.length
  pr : ∀ (k s : Nat), T[k]? = some (some s) → s < S.length ∧ S.getD s 0 ≤ A.getD k 0 ∧ A.getD k 0 ≤ S.getD s 0 + L
  inj : ∀ (k j s : Nat), T[k]? = some (some s) → T[j]? = some (some s) → k = j
/-- for an arrival without a send: a range of sends, all taken, that holds its partners and that no way enters -/
structure Wall (S A : List Int) (L : Int) (T : List (Option Nat)) (k : Nat) (W : Nat → Prop) : Prop where
  tk : ∀ s, W s → ∃ j : Nat, T[j]? = some (some s)
  pr : ∀ s, s < S.length → S.getD s 0 ≤ A.getD k 0 → A.getD k 0 ≤ S.getD s 0 + L → W s
  st : ∀ (s j s' : Nat), T[j]? = some (some s') → W s' → s < S.length → S.getD s 0 ≤ A.getD j 0 → A.getD j 0 ≤ S.getD s 0 + L → W s
theorem facts (hS : Asc S) (A : List Int) (L : Int) : ∀ k, k < A.length → Fact S A L (grd S L 0 A) (pts S L 0 A) k :=
  fun k hk => hist hS A.length 0 0 (by omega) rfl rfl (fun i hi => by omega) (fun q hq => by omega) k (Nat.zero_le _) hk
theorem lt_of_get {α : Type} {l : List α} {k : Nat} {x : α} (h : l[k]? = some x) : k < l.length := (List.getElem?_eq_some_iff.mp h).1
theorem grd_mat (hS : Asc S) (A : List Int) (L : Int) : Mat S A L (grd S L 0 A) := by
  have F := facts hS A L
  have ln := grd_len (S := S) (L := L) 0 A
  have dom : ∀ (k : Nat) o, (grd S L 0 A)[k]? = some o → k < A.length := fun k o h => by have := lt_of_get h; omega
  refine ⟨ln, fun k s h => ((F k (dom k _ h)).h1 s h).2, fun k j s h1 h2 => ?_⟩
  rcases Nat.lt_trichotomy k j with g | g | g
  · have e := ((F j (dom j _ h2)).h1 s h2).1
    have := ((F j (dom j _ h2)).h3 k g).2 s h1
    omega
  · exact g
  · have e := ((F k (dom k _ h1)).h1 s h1).1
    have := ((F k (dom k _ h1)).h3 j g).2 s h2
    omega
theorem grd_wall (hS : Asc S) (hA : Asc A) {k : Nat} (hk : (grd S L 0 A)[k]? = some none) : ∃ W, Wall S A L (grd S L 0 A) k W := by
  have F := facts hS A L
  have ln := grd_len (S := S) (L := L) 0 A
  have dom : ∀ (k : Nat) o, (grd S L 0 A)[k]? = some o → k < A.length := fun k o h => by have := lt_of_get h; omega
  have kl := dom k _ hk
  have Fk := F k kl
  generalize grd S L 0 A = T at *
  generalize pts S L 0 A = P at *
  have below : ∀ s, s < S.length → S.getD s 0 ≤ A.getD k 0 → s < P.getD k 0 := fun s h1 h2 => by
    rcases Fk.h2 hk with g | g
    · omega
    · rcases Nat.lt_or_ge s (P.getD k 0) with z | z
      · exact z
      · have := hS _ _ z h1; omega
  refine ⟨fun s => s < P.getD k 0 ∧ ∀ q, q < P.getD k 0 → (∀ j : Nat, T[j]? ≠ some (some q)) → q < s, ?_, ?_, ?_⟩
  · rintro s ⟨h1, h2⟩
    refine Classical.byContradiction fun hn => ?_
    have := h2 s h1 fun j hj => hn ⟨j, hj⟩
    omega
  · intro s h1 h2 h3
    refine ⟨below s h1 h2, fun q hq hn => ?_⟩
    rcases Fk.h4 q hq with ⟨j, _, hj⟩ | ⟨lq, i, hi, ho, _⟩
    · exact absurd hj (hn j)
    · have := hA i k hi kl
      rcases Nat.lt_or_ge q s with z | z
      · exact z
      · have := hS s q z lq
        omega
  · rintro s j s' hj ⟨w1, w2⟩ h1 h2 h3
    have jl := dom j _ hj
    have Fj := F j jl
    have ej := (Fj.h1 s' hj).1
    have jk : j < k := by
      rcases Nat.lt_trichotomy j k with g | g | g
      · exact g
      · subst g; rw [hk] at hj; cases hj
      · have := (Fj.h3 k g).1; omega
    have a1 := hA j k (by omega) kl
    refine ⟨below s h1 (by omega), fun q hq hn => ?_⟩
    have q1 := w2 q hq hn
    rcases Fk.h4 q hq with ⟨j', _, hj'⟩ | ⟨lq, i, hi, ho, hp⟩
    · exact absurd hj' (hn j')
    · have ij : i ≤ j := by
        rcases Nat.lt_or_ge j i with g | g
        · have := hp j g; omega
        · exact g
      have a2 := hA i j ij jl
      rcases Nat.lt_or_ge q s with z | z
      · exact z
      · have := hS s q z lq
        omega
/-! ### alternating ways -/
inductive Rch (fr : Nat → Prop) (st : Nat → Nat → Prop) : Nat → Prop
  | base {x : Nat} : fr x → Rch fr st x
  | step {x y : Nat} : Rch fr st x → st x y → Rch fr st y
/-- free ones, and one step of an alternating way -/
def Fr (nx : Nat) (mx : Nat → Option Nat) (x : Nat) : Prop := x < nx ∧ mx x = none
def Sp (row : Nat → List Nat) (my : Nat → Option Nat) (x x' : Nat) : Prop := ∃ y ∈ row x, my y = some x'
abbrev Way (nx : Nat) (mx : Nat → Option Nat) (row : Nat → List Nat) (my : Nat → Option Nat) : Nat → Prop := Rch (Fr nx mx) (Sp row my)
theorem filt_len {α : Type} (p : α → Bool) : ∀ l : List α, l.length = (l.filter p).length + (l.filter fun x => !p x).length
  | [] => rfl
  | a :: l => by
    have := filt_len p l
    cases h : p a <;> simp [h] <;> omega
theorem map_nodup {f : Nat → Nat} : ∀ {l : List Nat}, l.Nodup → (∀ a ∈ l, ∀ b ∈ l, f a = f b → a = b) → (l.map f).Nodup
  | [], _, _ => .nil
  | a :: l, h, inj => by
    rw [List.nodup_cons] at h
    rw [List.map_cons, List.nodup_cons]
    refine ⟨fun z => ?_, map_nodup h.2 fun x hx y hy e => inj x (by simp [hx]) y (by simp [hy]) e⟩
    obtain ⟨b, hb, e⟩ := List.mem_map.mp z
    have := inj b (by simp [hb]) a (by simp) e
    subst this
    exact h.1 hb
theorem deficit {nx : Nat} {mx my : Nat → Option Nat} {row : Nat → List Nat} (hm : ∀ x y, my y = some x → mx x = some y) (hm' : ∀ x y, mx x = some y → my y = some x)
    (cl : ∀ x, Way nx mx row my x → ∀ y ∈ row x, ∃ x', my y = some x') {l u : List Nat} (hl : l.Nodup) (hu : u.Nodup) (ml : ∀ x, x ∈ l ↔ Way nx mx row my x) (mu : ∀ y, y ∈ u ↔ ∃ x ∈ l, y ∈ row x) :
    l.length = u.length + ((List.range nx).filter fun x => (mx x).isNone).length := by
  have h1 := filt_len (fun x => (mx x).isNone) l
  have e0 : (l.filter fun x => (mx x).isNone).length = ((List.range nx).filter fun x => (mx x).isNone).length := by
    refine nodup_len (hl.filter _) (List.nodup_range.filter _) fun x => ?_
    simp only [List.mem_filter, ml, List.mem_range, Option.isNone_iff_eq_none]
    constructor
    · rintro ⟨r, h⟩
      refine ⟨?_, h⟩
      cases r with
      | base f => exact f.1
      | step r s =>
        obtain ⟨y, _, hy⟩ := s
        rw [hm _ _ hy] at h; cases h
    · rintro ⟨a, b⟩
      exact ⟨.base ⟨a, b⟩, b⟩
  have got : ∀ y ∈ u, ∃ x', my y = some x' := fun y hy => by
    obtain ⟨x, hx, hr⟩ := (mu y).mp hy
    exact cl x ((ml x).mp hx) y hr
  have e1 : (l.filter fun x => !(mx x).isNone).length = u.length := by
    have : u.length = (u.map fun y => (my y).getD 0).length := by simp
    rw [this]
    refine nodup_len (hl.filter _) (map_nodup hu fun a ha b hb e => ?_) fun x => ?_
    · obtain ⟨x, ex⟩ := got a ha
      obtain ⟨x', ex'⟩ := got b hb
      simp [ex, ex'] at e
      subst e
      have g1 := hm _ _ ex
      have g2 := hm _ _ ex'
      rw [g1] at g2
      exact Option.some.inj g2
    · simp only [List.mem_filter, ml, List.mem_map, Bool.not_eq_true', Option.isNone_eq_false_iff]
      constructor
      · rintro ⟨r, h⟩
        cases r with
        | base f => rw [f.2] at h; simp at h
        | step r s =>
          rename_i x0
          obtain ⟨y, hy, e⟩ := s
          exact ⟨y, (mu y).mpr ⟨x0, (ml x0).mpr r, hy⟩, by simp [e]⟩
      · rintro ⟨y, hy, e⟩
        obtain ⟨x', ex⟩ := got y hy
        rw [ex] at e
        simp at e
        subst e
        obtain ⟨x0, hx0, hr⟩ := (mu y).mp hy
        refine ⟨.step ((ml x0).mp hx0) ⟨y, hr, ex⟩, ?_⟩
        rw [hm _ _ ex]; rfl
  omega
/-! the ways from free sends, from free arrivals -/
def tk (T : List (Option Nat)) (k : Nat) : Option Nat := (T[k]?).join
theorem tk_some {T : List (Option Nat)} {k s : Nat} : tk T k = some s ↔ T[k]? = some (some s) := by
  unfold tk
  cases h : T[k]? with
  | none => simp
  | some o => cases o <;> simp
/-- who has taken a send -/
def mt (T : List (Option Nat)) (s : Nat) : Option Nat := (List.range T.length).find? fun k => T[k]? == some (some s)
theorem mt_some {S A : List Int} {L : Int} {T : List (Option Nat)} (M : Mat S A L T) {k s : Nat} : mt T s = some k ↔ tk T k = some s := by
  unfold mt
  rw [tk_some, List.find?_range_eq_some]
  constructor
  · rintro ⟨h, _⟩; simpa using h
  · intro h
    refine ⟨by simp [h], List.mem_range.mpr (lt_of_get h), fun j hj => ?_⟩
    by_cases e : T[j]? = some (some s)
    · have := M.inj k j s h e; omega
    · simp [e]
def rowS (S A : List Int) (L : Int) (s : Nat) : List Nat := sRow A L (S.getD s 0)
def rowA (S A : List Int) (L : Int) (k : Nat) : List Nat := aRow S L (A.getD k 0)
abbrev WayS (S A : List Int) (L : Int) (T : List (Option Nat)) : Nat → Prop := Way S.length (mt T) (rowS S A L) (tk T)
abbrev WayA (S A : List Int) (L : Int) (T : List (Option Nat)) : Nat → Prop := Way A.length (tk T) (rowA S A L) (mt T)
theorem wayS_lt {S A : List Int} {L : Int} {T : List (Option Nat)} (M : Mat S A L T) {s : Nat} (h : WayS S A L T s) : s < S.length := by
  cases h with
  | base f => exact f.1
  | step r st => obtain ⟨y, _, e⟩ := st; exact (M.pr y s (tk_some.mp e)).1
theorem wayA_lt {S A : List Int} {L : Int} {T : List (Option Nat)} (M : Mat S A L T) {k : Nat} (h : WayA S A L T k) : k < A.length := by
  cases h with
  | base f => exact f.1
  | step r st =>
    obtain ⟨y, _, e⟩ := st
    have := lt_of_get (tk_some.mp ((mt_some M).mp e))
    rw [M.len] at this; exact this
theorem wayS_full (hS : Asc S) (hA : Asc A) {s : Nat} (h : WayS S A L (grd S L 0 A) s) : ∀ k ∈ rowS S A L s, ∃ s', tk (grd S L 0 A) k = some s' := by
  have M := grd_mat hS A L
  intro k hk
  obtain ⟨k1, k2, k3⟩ := (mem_sRow A L).mp hk
  refine Classical.byContradiction fun hn => ?_
  have kn : (grd S L 0 A)[k]? = some none := by
    have kl : k < (grd S L 0 A).length := by rw [M.len]; exact k1
    cases e : (grd S L 0 A)[k]? with
    | none => rw [List.getElem?_eq_none_iff] at e; omega
    | some o => cases o with
      | none => rfl
      | some s' => exact absurd ⟨s', tk_some.mpr e⟩ hn
  obtain ⟨W, w⟩ := grd_wall hS hA kn
  have out : ∀ x, WayS S A L (grd S L 0 A) x → ¬ W x := fun x hx => by
    induction hx with
    | base f =>
      intro z
      obtain ⟨j, hj⟩ := w.tk _ z
      have := (mt_some M).mpr (tk_some.mpr hj)
      rw [f.2] at this; cases this
    | step r st ih =>
      rename_i x y
      intro z
      obtain ⟨j, hj, e⟩ := st
      obtain ⟨j1, j2, j3⟩ := (mem_sRow A L).mp hj
      exact ih (w.st x j y (tk_some.mp e) z (wayS_lt M r) j2 j3)
  exact out s h (w.pr s (wayS_lt M h) k2 k3)
theorem wayA_full (hS : Asc S) (hA : Asc A) {k : Nat} (h : WayA S A L (grd S L 0 A) k) : ∀ s ∈ rowA S A L k, ∃ k', mt (grd S L 0 A) s = some k' := by
  have M := grd_mat hS A L
  have out : ∀ x, WayA S A L (grd S L 0 A) x → ∀ s ∈ rowA S A L x, ¬ WayS S A L (grd S L 0 A) s := fun x hx => by
    induction hx with
    | base f =>
      rename_i x
      intro s hs hw
      obtain ⟨s1, s2, s3⟩ := (mem_aRow S L).mp hs
      obtain ⟨s', e⟩ := wayS_full hS hA hw x ((mem_sRow A L).mpr ⟨f.1, s2, s3⟩)
      rw [f.2] at e; cases e
    | step r st ih =>
      rename_i x y
      intro s hs hw
      obtain ⟨s0, hs0, e⟩ := st
      obtain ⟨s1, s2, s3⟩ := (mem_aRow S L).mp hs
      have e' := (mt_some M).mp e
      have yl := lt_of_get (tk_some.mp e')
      rw [M.len] at yl
      exact ih s0 hs0 (.step hw ⟨y, (mem_sRow A L).mpr ⟨yl, s2, s3⟩, e'⟩)
  intro s hs
  obtain ⟨s1, _, _⟩ := (mem_aRow S L).mp hs
  cases e : mt (grd S L 0 A) s with
  | some k' => exact ⟨k', rfl⟩
  | none => exact absurd (.base ⟨s1, e⟩) (out k h s hs)
/-- the loose sends have as many partners less as sends are left out -/
theorem defS (hS : Asc S) (hA : Asc A) {l u : List Nat} (hl : l.Nodup) (hu : u.Nodup) (ml : ∀ x, x ∈ l ↔ WayS S A L (grd S L 0 A) x) (mu : ∀ y, y ∈ u ↔ ∃ x ∈ l, y ∈ rowS S A L x) :
    l.length = u.length + ((List.range S.length).filter fun x => (mt (grd S L 0 A) x).isNone).length :=
  have M := grd_mat hS A L
  deficit (fun x y h => (mt_some M).mpr h) (fun x y h => (mt_some M).mp h) (fun x h => wayS_full hS hA h) hl hu ml mu
theorem defA (hS : Asc S) (hA : Asc A) {l u : List Nat} (hl : l.Nodup) (hu : u.Nodup) (ml : ∀ x, x ∈ l ↔ WayA S A L (grd S L 0 A) x) (mu : ∀ y, y ∈ u ↔ ∃ x ∈ l, y ∈ rowA S A L x) :
    l.length = u.length + ((List.range A.length).filter fun x => (tk (grd S L 0 A) x).isNone).length :=
  have M := grd_mat hS A L
  deficit (fun x y h => (mt_some M).mp h) (fun x y h => (mt_some M).mpr h) (fun x h => wayA_full hS hA h) hl hu ml mu
end N50

namespace DL
open PySem PySem.Spec PyProof.Rows L2 N50
/-! ## Plain data of matchings -/
def iD (l : List Int) : PyData := .tuple (l.map .int)
def kD (k : Nat) : PyData := .int (k : Nat)
def nD (l : List Nat) : PyData := .tuple (l.map kD)
def oD : Option Nat → PyData
  | none => .none
  | some k => .int (k : Nat)
def rD (rows : List (List Nat)) : PyData := .tuple (rows.map nD)
theorem nol_int (l : List Int) : nolistA (l.map PyData.int) = true := by
  induction l with
  | nil => rfl
  | cons x r ih => simp [ih]
theorem nol_k (l : List Nat) : nolistA (l.map kD) = true := by
  induction l with
  | nil => rfl
  | cons x r ih => simp [ih, kD]
theorem nol_o (l : List (Option Nat)) : nolistA (l.map oD) = true := by
  induction l with
  | nil => rfl
  | cons x r ih => cases x <;> simp [ih, oD]
theorem nol_r (l : List (List Nat)) : nolistA (l.map nD) = true := by
  induction l with
  | nil => rfl
  | cons x r ih => simp [ih, nD, nol_k]
theorem nolA_of {xs : List PyData} (h : ∀ x ∈ xs, nolist x = true) : nolistA xs = true := by
  induction xs with
  | nil => rfl
  | cons x r ih => simp [h x (by simp), ih fun y hy => h y (by simp [hy])]
theorem nolA_mem {xs : List PyData} (h : nolistA xs = true) : ∀ x ∈ xs, nolist x = true := by
  induction xs with
  | nil => simp
  | cons x r ih =>
    simp at h
    intro y hy
    rcases List.mem_cons.mp hy with rfl | hy
    · exact h.1
    · exact ih h.2 y hy
@[simp] theorem nolist_nD (l : List Nat) : nolist (nD l) = true := nol_k l
@[simp] theorem nolist_iD (l : List Int) : nolist (iD l) = true := nol_int l
@[simp] theorem nolist_rD (l : List (List Nat)) : nolist (rD l) = true := nol_r l
@[simp] theorem nolist_kD (k : Nat) : nolist (kD k) = true := rfl
@[simp] theorem nolist_oD (k : Option Nat) : nolist (oD k) = true := by cases k <;> rfl
/-- a row of ticks -/
structure VRow (l : List Int) : Prop where
  len : l.length ≤ 40
  asc : l.Pairwise (· ≤ ·)
  rng : ∀ x ∈ l, 0 ≤ x ∧ x ≤ 400
structure Sides (S A : List Int) (L : Int) : Prop where
  s : VRow S
  a : VRow A
  l0 : 0 ≤ L
  l1 : L ≤ 400
theorem VRow.mono {l : List Int} (h : VRow l) : Asc l := fun i j hij hj => by
  rcases Nat.eq_or_lt_of_le hij with e | g
  · subst e; omega
  · have := List.pairwise_iff_getElem.mp h.asc i j (by omega) hj g
    simpa [List.getD, hj, (by omega : i < l.length)] using this
theorem Sides.S {S A : List Int} {L : Int} (h : Sides S A L) : Asc S := h.s.mono
theorem Sides.A {S A : List Int} {L : Int} (h : Sides S A L) : Asc A := h.a.mono
/-- the numbers below n of which P holds, ascending -/
noncomputable def lst (n : Nat) (P : Nat → Prop) : List Nat := open Classical in (List.range n).filter fun x => decide (P x)
theorem mem_lst {n : Nat} {P : Nat → Prop} {x : Nat} : x ∈ lst n P ↔ x < n ∧ P x := by simp [lst]
theorem lst_asc (n : Nat) (P : Nat → Prop) : (lst n P).Pairwise (· < ·) := List.pairwise_lt_range.filter _
theorem lst_ext {n : Nat} {P : Nat → Prop} {l : List Nat} (h : l.Pairwise (· < ·)) (e : ∀ x, x ∈ l ↔ x < n ∧ P x) : l = lst n P :=
  asc_ext (r := (· < ·)) Nat.lt_irrefl (fun a b h1 h2 => by omega) h (lst_asc n P) fun x => (e x).trans mem_lst.symm
theorem lst_len (n : Nat) (P : Nat → Prop) : (lst n P).length ≤ n := by
  have := List.length_filter_le (fun x => open Classical in decide (P x)) (List.range n)
  rw [List.length_range] at this
  exact this
/-- ascending ints that are numbers -/
theorem ints_nats {ns : List Int} {P : Int → Prop} (h : ns.Pairwise (· < ·)) (nn : ∀ k ∈ ns, 0 ≤ k) : ∃ l : List Nat, l.Pairwise (· < ·) ∧ ns = l.map (fun k : Nat => (k : Int)) := by
  refine ⟨ns.map Int.toNat, ?_, ?_⟩
  · rw [List.pairwise_map]
    exact h.imp_of_mem fun ha hb hab => by have := nn _ ha; have := nn _ hb; omega
  · rw [List.map_map]
    have : ∀ k ∈ ns, ((fun k : Nat => (k : Int)) ∘ Int.toNat) k = k := fun k hk => by have := nn k hk; simp; omega
    conv => lhs; rw [← List.map_id ns]
    exact (List.map_congr_left fun k hk => this k hk).symm
theorem sorted_ext {a b : List Int} (h : a.Pairwise (· < ·)) (h' : b.Pairwise (· < ·)) (e : ∀ x, x ∈ a ↔ x ∈ b) : a = b :=
  asc_ext (r := (· < ·)) (fun a => by omega) (fun a b h1 h2 => by omega) h h' e
theorem get_kD {l : List Nat} {i : Nat} : (l.map kD)[i]? = (l[i]?).map kD := List.getElem?_map ..
theorem rangeD_k (n : Nat) : rangeD 0 n = (List.range n).map kD := by
  unfold rangeD
  refine List.map_congr_left fun k _ => ?_
  simp [kD]
/-- a comprehension over a list of known things -/
theorem lcL_of {α : Type} {g : TDg} {tt : TDt} {te : TDe} {δ : DS} (F : α → PyData) (p : α → Bool) (f : α → PyData) {R : List PyData → Prop} : ∀ (xs : List α) (acc : List PyData),
    (∀ x ∈ xs, ∀ (k1 : PyData → Prop) (k0 : Prop), (p x = true → k1 (f x)) → (p x = false → k0) → g (F x) δ fun δ1 => tt δ1 (fun b => if b = true then te δ1 (fun sv => itemV sv k1) (fun _ => False) else k0) (fun _ => False)) →
    R (acc ++ (xs.filter p).map f) → lcL g tt te δ (xs.map F) acc R
  | [], acc, _, h => by have h' : R acc := by simpa using h
                        exact h'
  | x :: r, acc, hs, h => by
    refine hs x (by simp) _ _ (fun e => ?_) (fun e => ?_)
    · exact lcL_of F p f r (acc ++ [f x]) (fun d hd => hs d (by simp [hd])) (by simpa [e] using h)
    · exact lcL_of F p f r acc (fun d hd => hs d (by simp [hd])) (by simpa [e] using h)
theorem lcL_range {g : TDg} {tt : TDt} {te : TDe} {δ : DS} {R : List PyData → Prop} (n : Nat) (p : Nat → Bool) (f : Nat → PyData)
    (hs : ∀ k : Nat, k < n → ∀ (k1 : PyData → Prop) (k0 : Prop), (p k = true → k1 (f k)) → (p k = false → k0) → g (.int (k : Int)) δ fun δ1 => tt δ1 (fun b => if b = true then te δ1 (fun sv => itemV sv k1) (fun _ => False) else k0) (fun _ => False))
    (h : R (((List.range n).filter p).map f)) : lcL g tt te δ (rangeD 0 n) [] R := by
  rw [rangeD_k]
  exact lcL_of kD p f _ [] (fun k hk => hs k (List.mem_range.mp hk)) (by simpa using h)
theorem pairsD_k {α : Type} (F : α → PyData) (xs : List α) : ∃ G : Nat → PyData, pairsD (xs.map F) = (List.range xs.length).map G ∧ ∀ k (h : k < xs.length), G k = .tuple [.int (k : Int), F xs[k]] := by
  refine ⟨fun k => match xs[k]? with | some x => .tuple [.int (k : Int), F x] | none => .none, ?_, fun k h => by simp [h]⟩
  rw [pairsD_eq]
  apply List.ext_getElem?
  intro i
  rw [pairsFrom_get, List.getElem?_map, List.getElem?_map]
  by_cases h : i < xs.length
  · simp [h]
  · simp [h, List.getElem?_eq_none_iff.mpr (Nat.le_of_not_lt h)]
theorem lcL_enum {α : Type} {g : TDg} {tt : TDt} {te : TDe} {δ : DS} {R : List PyData → Prop} (F : α → PyData) (xs : List α) (p : Nat → Bool) (f : Nat → PyData)
    (hs : ∀ (k : Nat) (x : α), xs[k]? = some x → ∀ (k1 : PyData → Prop) (k0 : Prop), (p k = true → k1 (f k)) → (p k = false → k0) → g (.tuple [.int (k : Int), F x]) δ fun δ1 => tt δ1 (fun b => if b = true then te δ1 (fun sv => itemV sv k1) (fun _ => False) else k0) (fun _ => False))
    (h : R (((List.range xs.length).filter p).map f)) : lcL g tt te δ (pairsD (xs.map F)) [] R := by
  obtain ⟨G, e, hG⟩ := pairsD_k F xs
  rw [e]
  refine lcL_of G p f _ [] (fun k hk k1 k0 a b => ?_) (by simpa using h)
  have hk := List.mem_range.mp hk
  rw [hG k hk]
  exact hs k _ (List.getElem?_eq_getElem hk) k1 k0 a b
theorem getI {l : List Int} {k : Nat} (h : k < l.length) : atI (l.map PyData.int) (k : Int) = some (.int (l.getD k 0)) := by rw [atI_at]; simp [h]
theorem getM {α : Type} {F : α → PyData} {l : List α} {k : Nat} (h : k < l.length) : atI (l.map F) (k : Int) = some (F l[k]) := by rw [atI_at]; simp [h]
theorem filt_true {α : Type} (l : List α) : l.filter (fun _ => true) = l := by simp
theorem nol_map {α : Type} {F : α → PyData} (h : ∀ x, nolist (F x) = true) (l : List α) : nolistA (l.map F) = true := nolA_of fun y hy => by
  obtain ⟨x, _, rfl⟩ := List.mem_map.mp hy
  exact h x
theorem shp_kD (n k : Nat) : shp n (kD k) := shp_int n _
theorem shp_nD (l : List Nat) : shp 1 (nD l) := shp_tup fun x hx => by
  obtain ⟨k, _, rfl⟩ := List.mem_map.mp hx
  exact shp_kD 0 k
/-- a list of numbers; lists of them -/
def lD (l : List Nat) : PyData := .list (l.map kD)
theorem shp_lD (l : List Nat) : shp 1 (lD l) := shp_lst fun x hx => by
  obtain ⟨k, _, rfl⟩ := List.mem_map.mp hx
  exact shp_kD 0 k
theorem eqD_nilT (l : List Nat) (R : SV → Prop) : eqD (nD l) (.tuple []) R = R (.d (.bool l.isEmpty)) := by
  have e : PyData.eqv (nD l) (.tuple []) = l.isEmpty := by
    cases l <;> simp [nD, PyData.eqv, PyData.eqvAll]
  have s1 := (shp_nD l).ok (by omega)
  have s2 := (shp_nD []).ok (by omega)
  have ok : eqOk (nD l) (.tuple []) := .inr ⟨s1, s2⟩
  simp [eqD, e, ok]
theorem eqD_nilL (l : List Nat) (R : SV → Prop) : eqD (lD l) (.list []) R = R (.d (.bool l.isEmpty)) := by
  have e : PyData.eqv (lD l) (.list []) = l.isEmpty := by
    cases l <;> simp [lD, PyData.eqv, PyData.eqvAll]
  have s1 := (shp_lD l).ok (by omega)
  have s2 := (shp_lD []).ok (by omega)
  have ok : eqOk (lD l) (.list []) := .inr ⟨s1, s2⟩
  simp [eqD, e, ok]
/-! a dict used as a set of numbers -/
def fk (q : List Nat) : List (Key × PyData) := q.map fun k => (Sum.inl ((k : Nat) : Int), .bool true)
theorem fk_val (q : List Nat) (k : Nat) : (valD (fk q) (Sum.inl (k : Int))).isSome = decide (k ∈ q) := by
  induction q with
  | nil => rfl
  | cons a r ih =>
    unfold valD fk at ih ⊢
    rw [List.map_cons, List.find?_cons]
    by_cases h : a = k
    · subst h; simp
    · have h' : ¬ k = a := fun z => h z.symm
      have e : decide ((Sum.inl ((a : Nat) : Int) : Key) = Sum.inl (k : Int)) = false := decide_eq_false fun z => h (by injection z; omega)
      have e' : decide (k ∈ a :: r) = decide (k ∈ r) := by simp [h']
      dsimp only
      rw [e, e']
      exact ih
theorem fk_put {q : List Nat} {k : Nat} (h : k ∉ q) : putD (fk q) (Sum.inl (k : Int)) (.bool true) = fk (q ++ [k]) := by
  have : (fk q).any (fun kv => decide (kv.1 = Sum.inl (k : Int))) = false := by
    rw [List.any_eq_false]
    intro kv hkv
    obtain ⟨j, hj, rfl⟩ := List.mem_map.mp hkv
    have : j ≠ k := fun z => h (z ▸ hj)
    have e : ¬ ((Sum.inl ((j : Nat) : Int) : Key) = Sum.inl (k : Int)) := fun z => this (by injection z; omega)
    simpa using e
  unfold putD
  rw [this]
  simp [fk]
/-- the new ones of a list behind a list -/
def addN (q : List Nat) : List Nat → List Nat
  | [] => q
  | x :: r => if x ∈ q then addN q r else addN (q ++ [x]) r
theorem mem_addN : ∀ {xs q : List Nat} {k : Nat}, k ∈ addN q xs ↔ k ∈ q ∨ k ∈ xs
  | [], q, k => by simp [addN]
  | x :: r, q, k => by
    rw [addN]
    split
    · rename_i h
      rw [mem_addN]
      simp only [List.mem_cons]
      constructor
      · rintro (a | a)
        · exact .inl a
        · exact .inr (.inr a)
      · rintro (a | a | a)
        · exact .inl a
        · subst a; exact .inl h
        · exact .inr a
    · rw [mem_addN]
      simp only [List.mem_append, List.mem_cons, List.not_mem_nil, or_false, or_assoc]
theorem nodup_addN : ∀ {xs q : List Nat}, q.Nodup → (addN q xs).Nodup
  | [], q, h => h
  | x :: r, q, h => by
    rw [addN]
    split
    · exact nodup_addN h
    · rename_i hx
      refine nodup_addN (List.nodup_append.mpr ⟨h, by simp, fun a ha b hb => ?_⟩)
      simp at hb
      subst hb
      intro z
      exact hx (z ▸ ha)
theorem addN_pre : ∀ {xs q : List Nat}, ∃ r, addN q xs = q ++ r
  | [], q => ⟨[], by simp [addN]⟩
  | x :: r, q => by
    rw [addN]
    split
    · exact addN_pre
    · obtain ⟨s, e⟩ := addN_pre (xs := r) (q := q ++ [x])
      exact ⟨x :: s, by rw [e]; simp⟩
theorem nodup_bound {q : List Nat} {n : Nat} (h : q.Nodup) (b : ∀ x ∈ q, x < n) : q.length ≤ n := by
  have := nodup_sub (m := List.range n) h fun x hx => List.mem_range.mpr (b x hx)
  simpa using this
/-- numbers sorted -/
theorem sort_lst {q : List Nat} {n : Nat} {P : Nat → Prop} (h : q.Nodup) (e : ∀ x, x ∈ q ↔ x < n ∧ P x) {ns : List Int} (hp : ns.Perm (q.map fun k : Nat => (k : Int))) (hs : ns.Pairwise (· ≤ ·)) : ns.map PyData.int = (lst n P).map kD := by
  have nd : ns.Nodup := hp.nodup_iff.mpr (by
    rw [List.nodup_iff_pairwise_ne, List.pairwise_map]
    exact (List.nodup_iff_pairwise_ne.mp h).imp fun hab z => hab (by omega))
  have hlt : ns.Pairwise (· < ·) := by
    have := List.pairwise_and_iff.mpr ⟨hs, List.nodup_iff_pairwise_ne.mp nd⟩
    exact this.imp fun ⟨a, b⟩ => by omega
  have : ns = (lst n P).map fun k : Nat => (k : Int) := by
    refine sorted_ext hlt ?_ fun x => ?_
    · rw [List.pairwise_map]
      exact (lst_asc n P).imp fun h => by omega
    · rw [hp.mem_iff]
      simp only [List.mem_map, mem_lst, e]
  rw [this, List.map_map]
  rfl
/-! odd data -/
def intV : PyData → Int
  | .int i => i
  | _ => 0
/-- how many of the numbers below n stand in l -/
def usedN (n : Nat) (l : List Int) : Nat := ((List.range n).filter fun k : Nat => decide ((k : Int) ∈ l)).length
theorem used_len {n : Nat} {l u : List Int} (hu : u.Nodup) (e : ∀ k, k ∈ u ↔ k ∈ l) (r : ∀ i ∈ l, 0 ≤ i ∧ i < n) : u.length = usedN n l := by
  unfold usedN
  have : ((List.range n).filter fun k : Nat => decide ((k : Int) ∈ l)).length = (((List.range n).filter fun k : Nat => decide ((k : Int) ∈ l)).map fun k : Nat => (k : Int)).length := by simp
  rw [this]
  refine nodup_len hu ?_ fun x => ?_
  · rw [List.nodup_iff_pairwise_ne, List.pairwise_map]
    exact ((List.nodup_range (n := n)).filter _ |> List.nodup_iff_pairwise_ne.mp).imp fun h z => h (by omega)
  · rw [e]
    constructor
    · intro hx
      have := r x hx
      refine List.mem_map.mpr ⟨x.toNat, ?_, by omega⟩
      simp only [List.mem_filter, List.mem_range, decide_eq_true_eq]
      exact ⟨by omega, by rw [show ((x.toNat : Nat) : Int) = x by omega]; exact hx⟩
    · intro hx
      obtain ⟨k, hk, rfl⟩ := List.mem_map.mp hx
      simpa using (List.mem_filter.mp hk).2
theorem used_nodup {n : Nat} {l : List Nat} (h : l.Nodup) (r : ∀ x ∈ l, x < n) : usedN n (l.map fun k : Nat => (k : Int)) = l.length := by
  have := used_len (n := n) (l := l.map fun k : Nat => (k : Int)) (u := l.map fun k : Nat => (k : Int)) (by
    rw [List.nodup_iff_pairwise_ne, List.pairwise_map]
    exact (List.nodup_iff_pairwise_ne.mp h).imp fun h z => h (by omega)) (fun _ => Iff.rfl) (fun i hi => by
    obtain ⟨k, hk, rfl⟩ := List.mem_map.mp hi
    have := r k hk
    omega)
  rw [← this]; simp
def ascB : List Int → Bool
  | a :: b :: r => decide (a < b) && ascB (b :: r)
  | _ => true
theorem ascB_iff : ∀ l : List Int, ascB l = true ↔ l.Pairwise (· < ·)
  | [] => by simp [ascB]
  | [a] => by simp [ascB]
  | a :: b :: r => by
    have ih := ascB_iff (b :: r)
    rw [ascB, Bool.and_eq_true, ih, decide_eq_true_eq]
    constructor
    · rintro ⟨h1, h2⟩
      refine List.pairwise_cons.mpr ⟨fun x hx => ?_, h2⟩
      rcases List.mem_cons.mp hx with rfl | hx
      · exact h1
      · have := (List.pairwise_cons.mp h2).1 x hx; omega
    · intro h
      have := List.pairwise_cons.mp h
      exact ⟨this.1 b (by simp), this.2⟩
theorem ascB_at (l : List Int) : ascB l = true ↔ ∀ i, i + 1 < l.length → l.getD i 0 < l.getD (i + 1) 0 := by
  induction l with
  | nil => simp [ascB]
  | cons a l ih =>
    cases l with
    | nil => simp [ascB]
    | cons b r =>
      rw [ascB, Bool.and_eq_true, ih, decide_eq_true_eq]
      constructor
      · rintro ⟨h1, h2⟩ i hi
        cases i with
        | zero => simpa using h1
        | succ i => simpa using h2 i (by simpa using hi)
      · intro h
        refine ⟨by simpa using h 0 (by simp), fun i hi => ?_⟩
        simpa using h (i + 1) (by simpa using hi)
theorem intV_map {ds : List PyData} (h : ∀ d ∈ ds, isIntD d = true) : ds = (ds.map intV).map .int := by
  induction ds with
  | nil => rfl
  | cons d r ih =>
    have h1 := h d (by simp)
    have h2 := ih fun x hx => h x (by simp [hx])
    cases d <;> simp [isIntD] at h1
    simp only [List.map_cons, intV]
    rw [← h2]
/-- an ascending row of numbers below n -/
def isIdx (n : Nat) (x : PyData) : Bool := match x with
  | .tuple ds => ds.all (fun d => inRD d 0 ((n : Int) - 1)) && ascB (ds.map intV)
  | _ => false
theorem isIdx_nats {n : Nat} {ds : List PyData} (h : isIdx n (.tuple ds) = true) : ∃ l : List Nat, ds = l.map kD ∧ l.Pairwise (· < ·) ∧ ∀ x ∈ l, x < n := by
  simp only [isIdx, Bool.and_eq_true, List.all_eq_true] at h
  obtain ⟨h1, h2⟩ := h
  have e := intV_map (ds := ds) fun d hd => by
    have := h1 d hd
    cases d <;> simp [inRD, isIntD] at this ⊢
  have nn : ∀ k ∈ ds.map intV, 0 ≤ k ∧ k < n := fun k hk => by
    obtain ⟨d, hd, rfl⟩ := List.mem_map.mp hk
    have := h1 d hd
    cases d <;> simp [inRD, intV] at this ⊢
    omega
  obtain ⟨l, hl, el⟩ := ints_nats (P := fun _ => True) ((ascB_iff _).mp h2) fun k hk => (nn k hk).1
  refine ⟨l, by rw [e, el, List.map_map]; rfl, hl, fun x hx => ?_⟩
  have := (nn (x : Int) (by rw [el]; exact List.mem_map.mpr ⟨x, hx, rfl⟩)).2
  omega
/-! the law's lists -/
def zD : Option Nat → PyData
  | none => .int (-1)
  | some k => .int (k : Nat)
theorem shp_zD (n : Nat) (o : Option Nat) : shp n (zD o) := by cases o <;> exact shp_int n _
@[simp] theorem nolist_zD (k : Option Nat) : nolist (zD k) = true := by cases k <;> rfl
theorem anyEq_k (k : Int) (l : List Nat) : anyEq (.int k) (l.map kD) = decide (∃ x ∈ l, (x : Int) = k) := by
  induction l with
  | nil => rfl
  | cons a r ih =>
    have e : PyData.eqv (kD a) (.int k) = decide ((a : Int) = k) := by rw [kD, PyData.eqv]; exact (Bool.beq_eq_decide_eq _ _)
    unfold anyEq at ih ⊢
    rw [List.map_cons, List.any_cons, ih, e]
    simp
theorem inOk_k (k : Int) (l : List Nat) : inOk (.int k) (l.map kD) := by
  refine ⟨rfl, ?_⟩
  simp [List.all_map, flatD, kD, Function.comp_def]
theorem inOk_i (k : Int) (l : List Int) : inOk (.int k) (l.map PyData.int) := by
  refine ⟨rfl, ?_⟩
  simp [List.all_map, flatD, Function.comp_def]
theorem anyEq_i (k : Int) (l : List Int) : anyEq (.int k) (l.map PyData.int) = decide (k ∈ l) := by
  induction l with
  | nil => rfl
  | cons a r ih =>
    have e : PyData.eqv (.int a) (.int k) = decide (a = k) := by rw [PyData.eqv]; exact (Bool.beq_eq_decide_eq _ _)
    unfold anyEq at ih ⊢
    rw [List.map_cons, List.any_cons, ih, e]
    by_cases h : k = a
    · subst h; simp
    · have : ¬ a = k := fun z => h z.symm
      simp [h, this]
theorem inD_lD (neg : Bool) (k : Int) (l : List Nat) (R : SV → Prop) : inD neg (.int k) (lD l) R = R (.d (.bool (if neg then !decide (∃ x ∈ l, (x : Int) = k) else decide (∃ x ∈ l, (x : Int) = k)))) := by
  rw [lD, inD_lst, anyEq_k]
  simp [inOk_k]
theorem inD_lK (neg : Bool) (k : Nat) (l : List Nat) (R : SV → Prop) : inD neg (.int (k : Int)) (.list (l.map kD)) R = R (.d (.bool (if neg then !decide (k ∈ l) else decide (k ∈ l)))) := by
  have := inD_lD neg k l R
  rw [lD] at this
  rw [this]
  have e : (∃ x ∈ l, (x : Int) = (k : Int)) ↔ k ∈ l := ⟨fun ⟨x, hx, e⟩ => by rw [show k = x by omega]; exact hx, fun h => ⟨k, h, rfl⟩⟩
  simp only [e]
theorem inD_iD (neg : Bool) (k : Int) (l : List Int) (R : SV → Prop) : inD neg (.int k) (iD l) R = R (.d (.bool (if neg then !decide (k ∈ l) else decide (k ∈ l)))) := by
  rw [iD, inD_tup, anyEq_i]
  simp [inOk_i]
theorem inD_z (neg : Bool) (k : Nat) (T : List (Option Nat)) (R : SV → Prop) : inD neg (.int (k : Int)) (.list (T.map zD)) R = R (.d (.bool (if neg then !decide (some k ∈ T) else decide (some k ∈ T)))) := by
  have em : T.map zD = (T.map fun o : Option Nat => match o with | none => (-1 : Int) | some k => (k : Int)).map PyData.int := by
    rw [List.map_map]
    refine List.map_congr_left fun o _ => ?_
    cases o <;> rfl
  rw [em, inD_lst, anyEq_i]
  have e : ((k : Int) ∈ T.map fun o : Option Nat => match o with | none => (-1 : Int) | some k => (k : Int)) ↔ some k ∈ T := by
    rw [List.mem_map]
    constructor
    · rintro ⟨o, ho, e⟩
      cases o with
      | none => dsimp only at e; omega
      | some j => dsimp only at e; rw [show k = j by omega]; exact ho
    · intro h; exact ⟨some k, h, rfl⟩
  simp only [e]
  exact propext ⟨fun h => h.2, fun h => ⟨.inl (inOk_i _ _), h⟩⟩
theorem head_z (l : List Nat) : atI (l.map kD ++ [.int (-1)]) 0 = some (zD l.head?) := by
  cases l <;> simp [zD, kD]
theorem addN_filter : ∀ {r q : List Nat}, r.Nodup → addN q r = q ++ r.filter fun k => !decide (k ∈ q)
  | [], q, _ => by simp [addN]
  | x :: r, q, h => by
    rw [List.nodup_cons] at h
    rw [addN]
    by_cases c : x ∈ q
    · rw [if_pos c, addN_filter h.2]
      simp [c]
    · rw [if_neg c, addN_filter h.2]
      rw [List.filter_cons_of_pos (by simpa using c), List.append_assoc, List.singleton_append]
      congr 2
      refine List.filter_congr fun k hk => ?_
      have : k ≠ x := fun z => h.1 (z ▸ hk)
      simp [this]
/-- a comprehension whose turns give what they may -/
theorem lcL_any {g : TDg} {tt : TDt} {te : TDe} {δ : DS} (P : PyData → Prop) {R : List PyData → Prop} : ∀ (items acc : List PyData),
    (∀ d ∈ items, ∀ (k1 : PyData → Prop) (k0 : Prop), (∀ x, P x → k1 x) → g d δ fun δ1 => tt δ1 (fun b => if b = true then te δ1 (fun sv => itemV sv k1) (fun _ => False) else k0) (fun _ => False)) →
    (∀ xs : List PyData, xs.length = items.length → (∀ x ∈ xs, P x) → R (acc ++ xs)) → lcL g tt te δ items acc R
  | [], acc, _, h => by have h' : R acc := by simpa using h [] rfl (by simp)
                        exact h'
  | d :: r, acc, hs, h => hs d (by simp) _ _ fun x hx => lcL_any P r (acc ++ [x]) (fun d hd => hs d (by simp [hd])) fun xs hl hp => by
      have := h (x :: xs) (by simp [hl]) (fun y hy => by
        rcases List.mem_cons.mp hy with rfl | hy
        · exact hx
        · exact hp y hy)
      simpa using this
theorem kD_list {n : Nat} : ∀ {xs : List PyData}, (∀ x ∈ xs, ∃ k : Nat, k < n ∧ x = kD k) → ∃ idx : List Nat, xs = idx.map kD ∧ ∀ k ∈ idx, k < n
  | [], _ => ⟨[], rfl, by simp⟩
  | x :: r, h => by
    obtain ⟨k, hk, rfl⟩ := h x (by simp)
    obtain ⟨idx, rfl, hi⟩ := kD_list (xs := r) fun y hy => h y (by simp [hy])
    exact ⟨k :: idx, rfl, fun j hj => by
      rcases List.mem_cons.mp hj with rfl | hj
      · exact hk
      · exact hi j hj⟩
end DL

namespace TK
open PySem PySem.Spec PyProof.Rows L2 DL
def topS (i : Nat) : Stmt := PySem.Challenge.pw_trunkcall_k50_accounts_with_papers.main.body.getD i (.Pass ⟨0, 0, 0, 0⟩)
abbrev s_is_int : Stmt := topS 7
abbrev s_is_int_in : Stmt := topS 8
abbrev s_is_ascending : Stmt := topS 9
abbrev s_closure : Stmt := topS 12
abbrev s_is_row : Stmt := topS 15
abbrev s_check_sides : Stmt := topS 16
abbrev s_check_losses : Stmt := topS 17
abbrev s_check_duplicates : Stmt := topS 18
abbrev s_send_rows : Stmt := topS 19
abbrev s_arrival_rows : Stmt := topS 20
abbrev s_first_orphan : Stmt := topS 21
abbrev s_greedy_sends : Stmt := topS 22
abbrev s_pair_count : Stmt := topS 23
abbrev s__send_mates : Stmt := topS 24
abbrev s__reached : Stmt := topS 25
abbrev s_left_out_sends : Stmt := topS 26
abbrev s_left_out_arrivals : Stmt := topS 27
abbrev s_assign : Stmt := topS 28
abbrev s_is_assignment : Stmt := topS 29
abbrev s_matching : Stmt := topS 30
abbrev s_fewest_lost : Stmt := topS 31
abbrev s_fewest_extra : Stmt := topS 32
abbrev s_loose_sends : Stmt := topS 33
abbrev s_loose_arrivals : Stmt := topS 34
abbrev s_account_of : Stmt := topS 35
abbrev s_account : Stmt := topS 36
abbrev s_shows_matched : Stmt := topS 37
abbrev s_check_indexes : Stmt := topS 39
abbrev s_is_index_row : Stmt := topS 40
abbrev s_partners_of : Stmt := topS 41
abbrev s_deficit_of : Stmt := topS 42
abbrev s_lacks_partners : Stmt := topS 43
abbrev s_send_partners : Stmt := topS 44
abbrev s_arrival_partners : Stmt := topS 45
abbrev s_send_deficit : Stmt := topS 46
abbrev s_arrival_deficit : Stmt := topS 47
abbrev s_is_orphan : Stmt := topS 48
abbrev s_shows_orphan : Stmt := topS 49
abbrev s_shows_lost : Stmt := topS 50
abbrev s_shows_extra : Stmt := topS 51
abbrev s_shows_account : Stmt := topS 52
abbrev s__law_source : Stmt := topS 54
abbrev s__law_take : Stmt := topS 55
abbrev s__law_is_int : Stmt := topS 56
abbrev s__law_same : Stmt := topS 57
abbrev s__law_ticks : Stmt := topS 58
abbrev s__law_met : Stmt := topS 59
abbrev s__law_partners : Stmt := topS 60
abbrev s__law_turned : Stmt := topS 61
abbrev s__law_taken : Stmt := topS 62
abbrev s__law_mates : Stmt := topS 63
abbrev s__law_loose : Stmt := topS 64
abbrev s__law_met_by : Stmt := topS 65
abbrev s__law_is_set : Stmt := topS 66
abbrev s__law_lacks : Stmt := topS 67
abbrev s__law_is_assignment : Stmt := topS 68
abbrev s__law_used : Stmt := topS 69
abbrev s__law_limit : Stmt := topS 70
abbrev s__law_account : Stmt := topS 71
abbrev s__law_shows : Stmt := topS 72
abbrev s__law_spoilt : Stmt := topS 73
abbrev s__law_judged : Stmt := topS 74
abbrev s__law_sets_meet : Stmt := topS 75
abbrev s_law : Stmt := topS 76
abbrev i_TooMany : Stmt := (C8.clsBody (topS 2)).getD 0 (.Pass ⟨0, 0, 0, 0⟩)
abbrev i_BadIndex : Stmt := (C8.clsBody (topS 3)).getD 0 (.Pass ⟨0, 0, 0, 0⟩)
abbrev i_BadBook : Stmt := (C8.clsBody (topS 4)).getD 0 (.Pass ⟨0, 0, 0, 0⟩)
abbrev cv_MOST_REACHED : PyData := .int 4000
abbrev cv_MOST_TICK : PyData := .int 400
abbrev cv_MOST_ROW : PyData := .int 40
def frees : List Str := ["len", "isinstance", "int", "bool", "str", "tuple", "list", "range", "max", "min", "abs", "ord", "sorted", "sum", "set", "dict", "enumerate", "zip", "reversed", "repr", "ValueError", "next"]
abbrev KN : List Str := ["TrunkError", "TooMany", "BadIndex", "BadBook"]
def cm_TrunkError : Str → Bool := fun y => (["TrunkError", "TooMany", "BadIndex", "BadBook"] : List Str).contains y
def cm_TooMany : Str → Bool := fun y => (["TooMany"] : List Str).contains y
def cm_BadIndex : Str → Bool := fun y => (["BadIndex"] : List Str).contains y
def cm_BadBook : Str → Bool := fun y => (["BadBook"] : List Str).contains y
def cm_ValueError : Str → Bool := fun _ => true
abbrev kf_limit : List Str := ["TooMany"]
abbrev kf_index : List Str := ["BadIndex"]
abbrev kf_part : List Str := ["BadBook"]
def tabDefs : List He.Defn := [("_reached", none)]
def tabs (K : PySem.W.Frag) : List (Addr × Str) := [((He.cT K ("_reached", none)).2, (("_reached" : Str) ++ ".<locals>.") ++ "followers")]
theorem tm__reached {K : PySem.W.Frag} : ((He.cT K ("_reached", none)).2, (("_reached" : Str) ++ ".<locals>.") ++ "followers") ∈ tabs K := List.mem_of_getElem? (i := 0) rfl
def okN : List Int → Prop := fun ns => ns.length = 3
def okP : HO → Prop := fun o => ∃ ns, o = .lst (ns.map V.int) ∧ okN ns
theorem okT : ∀ o, okP o → tblB o = false := fun o ⟨ns, h, _⟩ => by rw [h]; rfl
theorem okT2 : ∀ p, ¬ okP (.ext p) := fun p ⟨ns, h, _⟩ => by cases h
abbrev LK (K : PySem.W.Frag) : Lk := LkT okP (tabs K)
theorem lkI {K : PySem.W.Frag} : LkInts (LK K) okN := ⟨fun o h => h, fun ns h => ⟨ns, rfl, h⟩⟩
def Bq (K : PySem.W.Frag) (mg : Str → Option Value) (base : Heap) : Prop := ∀ p ∈ tabDefs, LamX.TabB base mg (He.cT K p).1 (He.cT K p).2
structure Tx (K : PySem.W.Frag) (mg : Str → Option Value) : Prop where
  fr : ∀ x : Str, frees.contains x = true → mg x = none
  d_is_int : ∃ fd : FuncData, FunD K "is_int" "is_int" (defArgs s_is_int) (defBody s_is_int) (defScope s_is_int) [] [] (He.ga K "is_int") fd
  g_is_int : mg "is_int" = some (.ref (He.ga K "is_int"))
  d_is_int_in : ∃ fd : FuncData, FunD K "is_int_in" "is_int_in" (defArgs s_is_int_in) (defBody s_is_int_in) (defScope s_is_int_in) [] [] (He.ga K "is_int_in") fd
  g_is_int_in : mg "is_int_in" = some (.ref (He.ga K "is_int_in"))
  d_is_ascending : ∃ fd : FuncData, FunD K "is_ascending" "is_ascending" (defArgs s_is_ascending) (defBody s_is_ascending) (defScope s_is_ascending) [] [] (He.ga K "is_ascending") fd
  g_is_ascending : mg "is_ascending" = some (.ref (He.ga K "is_ascending"))
  d_closure : ∃ fd : FuncData, FunD K "closure" "closure" (defArgs s_closure) (defBody s_closure) (defScope s_closure) [] [] (He.ga K "closure") fd
  g_closure : mg "closure" = some (.ref (He.ga K "closure"))
  d_is_row : ∃ fd : FuncData, FunD K "is_row" "is_row" (defArgs s_is_row) (defBody s_is_row) (defScope s_is_row) [] [] (He.ga K "is_row") fd
  g_is_row : mg "is_row" = some (.ref (He.ga K "is_row"))
  d_check_sides : ∃ fd : FuncData, FunD K "check_sides" "check_sides" (defArgs s_check_sides) (defBody s_check_sides) (defScope s_check_sides) [] [] (He.ga K "check_sides") fd
  g_check_sides : mg "check_sides" = some (.ref (He.ga K "check_sides"))
  d_check_losses : ∃ fd : FuncData, FunD K "check_losses" "check_losses" (defArgs s_check_losses) (defBody s_check_losses) (defScope s_check_losses) [] [] (He.ga K "check_losses") fd
  g_check_losses : mg "check_losses" = some (.ref (He.ga K "check_losses"))
  d_check_duplicates : ∃ fd : FuncData, FunD K "check_duplicates" "check_duplicates" (defArgs s_check_duplicates) (defBody s_check_duplicates) (defScope s_check_duplicates) [] [] (He.ga K "check_duplicates") fd
  g_check_duplicates : mg "check_duplicates" = some (.ref (He.ga K "check_duplicates"))
  d_send_rows : ∃ fd : FuncData, FunD K "send_rows" "send_rows" (defArgs s_send_rows) (defBody s_send_rows) (defScope s_send_rows) [] [] (He.ga K "send_rows") fd
  g_send_rows : mg "send_rows" = some (.ref (He.ga K "send_rows"))
  d_arrival_rows : ∃ fd : FuncData, FunD K "arrival_rows" "arrival_rows" (defArgs s_arrival_rows) (defBody s_arrival_rows) (defScope s_arrival_rows) [] [] (He.ga K "arrival_rows") fd
  g_arrival_rows : mg "arrival_rows" = some (.ref (He.ga K "arrival_rows"))
  d_first_orphan : ∃ fd : FuncData, FunD K "first_orphan" "first_orphan" (defArgs s_first_orphan) (defBody s_first_orphan) (defScope s_first_orphan) [] [] (He.ga K "first_orphan") fd
  g_first_orphan : mg "first_orphan" = some (.ref (He.ga K "first_orphan"))
  d_greedy_sends : ∃ fd : FuncData, FunD K "greedy_sends" "greedy_sends" (defArgs s_greedy_sends) (defBody s_greedy_sends) (defScope s_greedy_sends) [] [] (He.ga K "greedy_sends") fd
  g_greedy_sends : mg "greedy_sends" = some (.ref (He.ga K "greedy_sends"))
  d_pair_count : ∃ fd : FuncData, FunD K "pair_count" "pair_count" (defArgs s_pair_count) (defBody s_pair_count) (defScope s_pair_count) [] [] (He.ga K "pair_count") fd
  g_pair_count : mg "pair_count" = some (.ref (He.ga K "pair_count"))
  d__send_mates : ∃ fd : FuncData, FunD K "_send_mates" "_send_mates" (defArgs s__send_mates) (defBody s__send_mates) (defScope s__send_mates) [] [] (He.ga K "_send_mates") fd
  g__send_mates : mg "_send_mates" = some (.ref (He.ga K "_send_mates"))
  d__reached : ∃ fd : FuncData, FunD K "_reached" "_reached" (defArgs s__reached) (defBody s__reached) (defScope s__reached) [] [] (He.ga K "_reached") fd
  g__reached : mg "_reached" = some (.ref (He.ga K "_reached"))
  d_left_out_sends : ∃ fd : FuncData, FunD K "left_out_sends" "left_out_sends" (defArgs s_left_out_sends) (defBody s_left_out_sends) (defScope s_left_out_sends) [] [] (He.ga K "left_out_sends") fd
  g_left_out_sends : mg "left_out_sends" = some (.ref (He.ga K "left_out_sends"))
  d_left_out_arrivals : ∃ fd : FuncData, FunD K "left_out_arrivals" "left_out_arrivals" (defArgs s_left_out_arrivals) (defBody s_left_out_arrivals) (defScope s_left_out_arrivals) [] [] (He.ga K "left_out_arrivals") fd
  g_left_out_arrivals : mg "left_out_arrivals" = some (.ref (He.ga K "left_out_arrivals"))
  d_assign : ∃ fd : FuncData, FunD K "assign" "assign" (defArgs s_assign) (defBody s_assign) (defScope s_assign) [] [] (He.ga K "assign") fd
  g_assign : mg "assign" = some (.ref (He.ga K "assign"))
  d_is_assignment : ∃ fd : FuncData, FunD K "is_assignment" "is_assignment" (defArgs s_is_assignment) (defBody s_is_assignment) (defScope s_is_assignment) [] [] (He.ga K "is_assignment") fd
  g_is_assignment : mg "is_assignment" = some (.ref (He.ga K "is_assignment"))
  d_matching : ∃ fd : FuncData, FunD K "matching" "matching" (defArgs s_matching) (defBody s_matching) (defScope s_matching) [] [] (He.ga K "matching") fd
  g_matching : mg "matching" = some (.ref (He.ga K "matching"))
  d_fewest_lost : ∃ fd : FuncData, FunD K "fewest_lost" "fewest_lost" (defArgs s_fewest_lost) (defBody s_fewest_lost) (defScope s_fewest_lost) [] [] (He.ga K "fewest_lost") fd
  g_fewest_lost : mg "fewest_lost" = some (.ref (He.ga K "fewest_lost"))
  d_fewest_extra : ∃ fd : FuncData, FunD K "fewest_extra" "fewest_extra" (defArgs s_fewest_extra) (defBody s_fewest_extra) (defScope s_fewest_extra) [] [] (He.ga K "fewest_extra") fd
  g_fewest_extra : mg "fewest_extra" = some (.ref (He.ga K "fewest_extra"))
  d_loose_sends : ∃ fd : FuncData, FunD K "loose_sends" "loose_sends" (defArgs s_loose_sends) (defBody s_loose_sends) (defScope s_loose_sends) [] [] (He.ga K "loose_sends") fd
  g_loose_sends : mg "loose_sends" = some (.ref (He.ga K "loose_sends"))
  d_loose_arrivals : ∃ fd : FuncData, FunD K "loose_arrivals" "loose_arrivals" (defArgs s_loose_arrivals) (defBody s_loose_arrivals) (defScope s_loose_arrivals) [] [] (He.ga K "loose_arrivals") fd
  g_loose_arrivals : mg "loose_arrivals" = some (.ref (He.ga K "loose_arrivals"))
  d_account_of : ∃ fd : FuncData, FunD K "account_of" "account_of" (defArgs s_account_of) (defBody s_account_of) (defScope s_account_of) [] [] (He.ga K "account_of") fd
  g_account_of : mg "account_of" = some (.ref (He.ga K "account_of"))
  d_account : ∃ fd : FuncData, FunD K "account" "account" (defArgs s_account) (defBody s_account) (defScope s_account) [] [] (He.ga K "account") fd
  g_account : mg "account" = some (.ref (He.ga K "account"))
  d_shows_matched : ∃ fd : FuncData, FunD K "shows_matched" "shows_matched" (defArgs s_shows_matched) (defBody s_shows_matched) (defScope s_shows_matched) [] [] (He.ga K "shows_matched") fd
  g_shows_matched : mg "shows_matched" = some (.ref (He.ga K "shows_matched"))
  d_check_indexes : ∃ fd : FuncData, FunD K "check_indexes" "check_indexes" (defArgs s_check_indexes) (defBody s_check_indexes) (defScope s_check_indexes) [] [] (He.ga K "check_indexes") fd
  g_check_indexes : mg "check_indexes" = some (.ref (He.ga K "check_indexes"))
  d_is_index_row : ∃ fd : FuncData, FunD K "is_index_row" "is_index_row" (defArgs s_is_index_row) (defBody s_is_index_row) (defScope s_is_index_row) [] [] (He.ga K "is_index_row") fd
  g_is_index_row : mg "is_index_row" = some (.ref (He.ga K "is_index_row"))
  d_partners_of : ∃ fd : FuncData, FunD K "partners_of" "partners_of" (defArgs s_partners_of) (defBody s_partners_of) (defScope s_partners_of) [] [] (He.ga K "partners_of") fd
  g_partners_of : mg "partners_of" = some (.ref (He.ga K "partners_of"))
  d_deficit_of : ∃ fd : FuncData, FunD K "deficit_of" "deficit_of" (defArgs s_deficit_of) (defBody s_deficit_of) (defScope s_deficit_of) [] [] (He.ga K "deficit_of") fd
  g_deficit_of : mg "deficit_of" = some (.ref (He.ga K "deficit_of"))
  d_lacks_partners : ∃ fd : FuncData, FunD K "lacks_partners" "lacks_partners" (defArgs s_lacks_partners) (defBody s_lacks_partners) (defScope s_lacks_partners) [] [] (He.ga K "lacks_partners") fd
  g_lacks_partners : mg "lacks_partners" = some (.ref (He.ga K "lacks_partners"))
  d_send_partners : ∃ fd : FuncData, FunD K "send_partners" "send_partners" (defArgs s_send_partners) (defBody s_send_partners) (defScope s_send_partners) [] [] (He.ga K "send_partners") fd
  g_send_partners : mg "send_partners" = some (.ref (He.ga K "send_partners"))
  d_arrival_partners : ∃ fd : FuncData, FunD K "arrival_partners" "arrival_partners" (defArgs s_arrival_partners) (defBody s_arrival_partners) (defScope s_arrival_partners) [] [] (He.ga K "arrival_partners") fd
  g_arrival_partners : mg "arrival_partners" = some (.ref (He.ga K "arrival_partners"))
  d_send_deficit : ∃ fd : FuncData, FunD K "send_deficit" "send_deficit" (defArgs s_send_deficit) (defBody s_send_deficit) (defScope s_send_deficit) [] [] (He.ga K "send_deficit") fd
  g_send_deficit : mg "send_deficit" = some (.ref (He.ga K "send_deficit"))
  d_arrival_deficit : ∃ fd : FuncData, FunD K "arrival_deficit" "arrival_deficit" (defArgs s_arrival_deficit) (defBody s_arrival_deficit) (defScope s_arrival_deficit) [] [] (He.ga K "arrival_deficit") fd
  g_arrival_deficit : mg "arrival_deficit" = some (.ref (He.ga K "arrival_deficit"))
  d_is_orphan : ∃ fd : FuncData, FunD K "is_orphan" "is_orphan" (defArgs s_is_orphan) (defBody s_is_orphan) (defScope s_is_orphan) [] [] (He.ga K "is_orphan") fd
  g_is_orphan : mg "is_orphan" = some (.ref (He.ga K "is_orphan"))
  d_shows_orphan : ∃ fd : FuncData, FunD K "shows_orphan" "shows_orphan" (defArgs s_shows_orphan) (defBody s_shows_orphan) (defScope s_shows_orphan) [] [] (He.ga K "shows_orphan") fd
  g_shows_orphan : mg "shows_orphan" = some (.ref (He.ga K "shows_orphan"))
  d_shows_lost : ∃ fd : FuncData, FunD K "shows_lost" "shows_lost" (defArgs s_shows_lost) (defBody s_shows_lost) (defScope s_shows_lost) [] [] (He.ga K "shows_lost") fd
  g_shows_lost : mg "shows_lost" = some (.ref (He.ga K "shows_lost"))
  d_shows_extra : ∃ fd : FuncData, FunD K "shows_extra" "shows_extra" (defArgs s_shows_extra) (defBody s_shows_extra) (defScope s_shows_extra) [] [] (He.ga K "shows_extra") fd
  g_shows_extra : mg "shows_extra" = some (.ref (He.ga K "shows_extra"))
  d_shows_account : ∃ fd : FuncData, FunD K "shows_account" "shows_account" (defArgs s_shows_account) (defBody s_shows_account) (defScope s_shows_account) [] [] (He.ga K "shows_account") fd
  g_shows_account : mg "shows_account" = some (.ref (He.ga K "shows_account"))
  d__law_source : ∃ fd : FuncData, FunD K "_law_source" "_law_source" (defArgs s__law_source) (defBody s__law_source) (defScope s__law_source) [] [] (He.ga K "_law_source") fd
  g__law_source : mg "_law_source" = some (.ref (He.ga K "_law_source"))
  d__law_take : ∃ fd : FuncData, FunD K "_law_take" "_law_take" (defArgs s__law_take) (defBody s__law_take) (defScope s__law_take) [] [] (He.ga K "_law_take") fd
  g__law_take : mg "_law_take" = some (.ref (He.ga K "_law_take"))
  d__law_is_int : ∃ fd : FuncData, FunD K "_law_is_int" "_law_is_int" (defArgs s__law_is_int) (defBody s__law_is_int) (defScope s__law_is_int) [] [] (He.ga K "_law_is_int") fd
  g__law_is_int : mg "_law_is_int" = some (.ref (He.ga K "_law_is_int"))
  d__law_same : ∃ fd : FuncData, FunD K "_law_same" "_law_same" (defArgs s__law_same) (defBody s__law_same) (defScope s__law_same) [] [] (He.ga K "_law_same") fd
  g__law_same : mg "_law_same" = some (.ref (He.ga K "_law_same"))
  d__law_ticks : ∃ fd : FuncData, FunD K "_law_ticks" "_law_ticks" (defArgs s__law_ticks) (defBody s__law_ticks) (defScope s__law_ticks) [] [] (He.ga K "_law_ticks") fd
  g__law_ticks : mg "_law_ticks" = some (.ref (He.ga K "_law_ticks"))
  d__law_met : ∃ fd : FuncData, FunD K "_law_met" "_law_met" (defArgs s__law_met) (defBody s__law_met) (defScope s__law_met) [] [] (He.ga K "_law_met") fd
  g__law_met : mg "_law_met" = some (.ref (He.ga K "_law_met"))
  d__law_partners : ∃ fd : FuncData, FunD K "_law_partners" "_law_partners" (defArgs s__law_partners) (defBody s__law_partners) (defScope s__law_partners) [] [] (He.ga K "_law_partners") fd
  g__law_partners : mg "_law_partners" = some (.ref (He.ga K "_law_partners"))
  d__law_turned : ∃ fd : FuncData, FunD K "_law_turned" "_law_turned" (defArgs s__law_turned) (defBody s__law_turned) (defScope s__law_turned) [] [] (He.ga K "_law_turned") fd
  g__law_turned : mg "_law_turned" = some (.ref (He.ga K "_law_turned"))
  d__law_taken : ∃ fd : FuncData, FunD K "_law_taken" "_law_taken" (defArgs s__law_taken) (defBody s__law_taken) (defScope s__law_taken) [] [] (He.ga K "_law_taken") fd
  g__law_taken : mg "_law_taken" = some (.ref (He.ga K "_law_taken"))
  d__law_mates : ∃ fd : FuncData, FunD K "_law_mates" "_law_mates" (defArgs s__law_mates) (defBody s__law_mates) (defScope s__law_mates) [] [] (He.ga K "_law_mates") fd
  g__law_mates : mg "_law_mates" = some (.ref (He.ga K "_law_mates"))
  d__law_loose : ∃ fd : FuncData, FunD K "_law_loose" "_law_loose" (defArgs s__law_loose) (defBody s__law_loose) (defScope s__law_loose) [] [] (He.ga K "_law_loose") fd
  g__law_loose : mg "_law_loose" = some (.ref (He.ga K "_law_loose"))
  d__law_met_by : ∃ fd : FuncData, FunD K "_law_met_by" "_law_met_by" (defArgs s__law_met_by) (defBody s__law_met_by) (defScope s__law_met_by) [] [] (He.ga K "_law_met_by") fd
  g__law_met_by : mg "_law_met_by" = some (.ref (He.ga K "_law_met_by"))
  d__law_is_set : ∃ fd : FuncData, FunD K "_law_is_set" "_law_is_set" (defArgs s__law_is_set) (defBody s__law_is_set) (defScope s__law_is_set) [] [] (He.ga K "_law_is_set") fd
  g__law_is_set : mg "_law_is_set" = some (.ref (He.ga K "_law_is_set"))
  d__law_lacks : ∃ fd : FuncData, FunD K "_law_lacks" "_law_lacks" (defArgs s__law_lacks) (defBody s__law_lacks) (defScope s__law_lacks) [] [] (He.ga K "_law_lacks") fd
  g__law_lacks : mg "_law_lacks" = some (.ref (He.ga K "_law_lacks"))
  d__law_is_assignment : ∃ fd : FuncData, FunD K "_law_is_assignment" "_law_is_assignment" (defArgs s__law_is_assignment) (defBody s__law_is_assignment) (defScope s__law_is_assignment) [] [] (He.ga K "_law_is_assignment") fd
  g__law_is_assignment : mg "_law_is_assignment" = some (.ref (He.ga K "_law_is_assignment"))
  d__law_used : ∃ fd : FuncData, FunD K "_law_used" "_law_used" (defArgs s__law_used) (defBody s__law_used) (defScope s__law_used) [] [] (He.ga K "_law_used") fd
  g__law_used : mg "_law_used" = some (.ref (He.ga K "_law_used"))
  d__law_limit : ∃ fd : FuncData, FunD K "_law_limit" "_law_limit" (defArgs s__law_limit) (defBody s__law_limit) (defScope s__law_limit) [] [] (He.ga K "_law_limit") fd
  g__law_limit : mg "_law_limit" = some (.ref (He.ga K "_law_limit"))
  d__law_account : ∃ fd : FuncData, FunD K "_law_account" "_law_account" (defArgs s__law_account) (defBody s__law_account) (defScope s__law_account) [] [] (He.ga K "_law_account") fd
  g__law_account : mg "_law_account" = some (.ref (He.ga K "_law_account"))
  d__law_shows : ∃ fd : FuncData, FunD K "_law_shows" "_law_shows" (defArgs s__law_shows) (defBody s__law_shows) (defScope s__law_shows) [] [] (He.ga K "_law_shows") fd
  g__law_shows : mg "_law_shows" = some (.ref (He.ga K "_law_shows"))
  d__law_spoilt : ∃ fd : FuncData, FunD K "_law_spoilt" "_law_spoilt" (defArgs s__law_spoilt) (defBody s__law_spoilt) (defScope s__law_spoilt) [] [] (He.ga K "_law_spoilt") fd
  g__law_spoilt : mg "_law_spoilt" = some (.ref (He.ga K "_law_spoilt"))
  d__law_judged : ∃ fd : FuncData, FunD K "_law_judged" "_law_judged" (defArgs s__law_judged) (defBody s__law_judged) (defScope s__law_judged) [] [] (He.ga K "_law_judged") fd
  g__law_judged : mg "_law_judged" = some (.ref (He.ga K "_law_judged"))
  d__law_sets_meet : ∃ fd : FuncData, FunD K "_law_sets_meet" "_law_sets_meet" (defArgs s__law_sets_meet) (defBody s__law_sets_meet) (defScope s__law_sets_meet) [] [] (He.ga K "_law_sets_meet") fd
  g__law_sets_meet : mg "_law_sets_meet" = some (.ref (He.ga K "_law_sets_meet"))
  d_law : ∃ fd : FuncData, FunD K "law" "law" (defArgs s_law) (defBody s_law) (defScope s_law) [] [] (He.ga K "law") fd
  g_law : mg "law" = some (.ref (He.ga K "law"))
  c_MOST_REACHED : ∃ t : Tok, mg "MOST_REACHED" = some (.int 4000 t)
  c_MOST_TICK : ∃ t : Tok, mg "MOST_TICK" = some (.int 400 t)
  c_MOST_ROW : ∃ t : Tok, mg "MOST_ROW" = some (.int 40 t)
  e_TrunkError : ErrC K "TrunkError" []
  g_TrunkError : mg "TrunkError" = some (.ref (He.ga K "TrunkError"))
  xm_TrunkError : ∀ y ∈ KN, PySem.W.exmOne K (.ref (He.ga K y)) (.ref (He.ga K "TrunkError")) = some (cm_TrunkError y)
  is_TrunkError : ∀ y ∈ KN, ExcC K (He.ga K y) ∧ PySem.W.kitOne K (.ref (He.ga K y)) (.ref (He.ga K "TrunkError")) = some (cm_TrunkError y)
  e_TooMany : ErrC K "TooMany" ["limit"]
  g_TooMany : mg "TooMany" = some (.ref (He.ga K "TooMany"))
  xm_TooMany : ∀ y ∈ KN, PySem.W.exmOne K (.ref (He.ga K y)) (.ref (He.ga K "TooMany")) = some (cm_TooMany y)
  is_TooMany : ∀ y ∈ KN, ExcC K (He.ga K y) ∧ PySem.W.kitOne K (.ref (He.ga K y)) (.ref (He.ga K "TooMany")) = some (cm_TooMany y)
  e_BadIndex : ErrC K "BadIndex" ["index"]
  g_BadIndex : mg "BadIndex" = some (.ref (He.ga K "BadIndex"))
  xm_BadIndex : ∀ y ∈ KN, PySem.W.exmOne K (.ref (He.ga K y)) (.ref (He.ga K "BadIndex")) = some (cm_BadIndex y)
  is_BadIndex : ∀ y ∈ KN, ExcC K (He.ga K y) ∧ PySem.W.kitOne K (.ref (He.ga K y)) (.ref (He.ga K "BadIndex")) = some (cm_BadIndex y)
  e_BadBook : ErrC K "BadBook" ["part"]
  g_BadBook : mg "BadBook" = some (.ref (He.ga K "BadBook"))
  xm_BadBook : ∀ y ∈ KN, PySem.W.exmOne K (.ref (He.ga K y)) (.ref (He.ga K "BadBook")) = some (cm_BadBook y)
  is_BadBook : ∀ y ∈ KN, ExcC K (He.ga K y) ∧ PySem.W.kitOne K (.ref (He.ga K y)) (.ref (He.ga K "BadBook")) = some (cm_BadBook y)
  is_ValueError : ∀ y ∈ KN, ExcC K (He.ga K y) ∧ PySem.W.kitOne K (.ref (He.ga K y)) (.type "ValueError") = some (cm_ValueError y)
  di_TooMany : ∃ fd : FuncData, FunD K "__init__" "TooMany.__init__" (defArgs i_TooMany) (defBody i_TooMany) (defScope i_TooMany) [] [] (He.ma K (He.ga K "TooMany") "__init__") fd
  fi_TooMany : PySem.W.findIn K (.ref (He.ga K "TooMany")) "__init__" = some (some (.ref (He.ma K (He.ga K "TooMany") "__init__")))
  ti_TooMany : PySem.W.typeIn K (.ref (He.ma K (He.ga K "TooMany") "__init__")) = some (.type "function")
  di_BadIndex : ∃ fd : FuncData, FunD K "__init__" "BadIndex.__init__" (defArgs i_BadIndex) (defBody i_BadIndex) (defScope i_BadIndex) [] [] (He.ma K (He.ga K "BadIndex") "__init__") fd
  fi_BadIndex : PySem.W.findIn K (.ref (He.ga K "BadIndex")) "__init__" = some (some (.ref (He.ma K (He.ga K "BadIndex") "__init__")))
  ti_BadIndex : PySem.W.typeIn K (.ref (He.ma K (He.ga K "BadIndex") "__init__")) = some (.type "function")
  di_BadBook : ∃ fd : FuncData, FunD K "__init__" "BadBook.__init__" (defArgs i_BadBook) (defBody i_BadBook) (defScope i_BadBook) [] [] (He.ma K (He.ga K "BadBook") "__init__") fd
  fi_BadBook : PySem.W.findIn K (.ref (He.ga K "BadBook")) "__init__" = some (some (.ref (He.ma K (He.ga K "BadBook") "__init__")))
  ti_BadBook : PySem.W.typeIn K (.ref (He.ma K (He.ga K "BadBook") "__init__")) = some (.type "function")
  f_limit : ∀ y ∈ kf_limit, XfC K (He.ga K y) ∧ PySem.W.findIn K (.ref (He.ga K y)) "limit" = some none
  f_index : ∀ y ∈ kf_index, XfC K (He.ga K y) ∧ PySem.W.findIn K (.ref (He.ga K y)) "index" = some none
  f_part : ∀ y ∈ kf_part, XfC K (He.ga K y) ∧ PySem.W.findIn K (.ref (He.ga K y)) "part" = some none
  tn : ((tabs K).map (·.1)).Nodup
section
variable {P : Program} {w : World} {K : PySem.W.Frag} {mg : Str → Option Value} {base : Heap}
theorem io_TooMany (T : Tx K mg) : InitOk P w K mg base "TooMany" ["limit"] := by
  obtain ⟨fd, FD⟩ := T.di_TooMany
  exact ⟨T.e_TooMany, _, fd, ["self", "limit"], T.fi_TooMany, T.ti_TooMany, rfl, init1 T.e_TooMany FD ⟨rfl, rfl, rfl, by decide +kernel, rfl, by decide +kernel, by decide +kernel⟩, FD.bindsN fun _ _ _ _ _ _ us hl => match us, hl with | [_, _], _ => rfl⟩
theorem io_BadIndex (T : Tx K mg) : InitOk P w K mg base "BadIndex" ["index"] := by
  obtain ⟨fd, FD⟩ := T.di_BadIndex
  exact ⟨T.e_BadIndex, _, fd, ["self", "index"], T.fi_BadIndex, T.ti_BadIndex, rfl, init1 T.e_BadIndex FD ⟨rfl, rfl, rfl, by decide +kernel, rfl, by decide +kernel, by decide +kernel⟩, FD.bindsN fun _ _ _ _ _ _ us hl => match us, hl with | [_, _], _ => rfl⟩
theorem io_BadBook (T : Tx K mg) : InitOk P w K mg base "BadBook" ["part"] := by
  obtain ⟨fd, FD⟩ := T.di_BadBook
  exact ⟨T.e_BadBook, _, fd, ["self", "part"], T.fi_BadBook, T.ti_BadBook, rfl, init1 T.e_BadBook FD ⟨rfl, rfl, rfl, by decide +kernel, rfl, by decide +kernel, by decide +kernel⟩, FD.bindsN fun _ _ _ _ _ _ us hl => match us, hl with | [_, _], _ => rfl⟩
abbrev N_is_int : List Str := ["value"]
theorem sc_is_int : FnScope N_is_int ["value"] (defScope s_is_int) := ⟨rfl, rfl, rfl, by decide +kernel, rfl, by decide +kernel, by decide +kernel⟩
def ts_is_int : TDs := (sRet true (eAnd (eIsi isIntS (eV 0)) (eNot (eIsi isBoolS (eV 0)))))
open N50
def C_is_int : Ctr := fun args R _ => ∃ x, args = [.d x] ∧ okD x = true ∧ R (.d (.bool (isIntD x)))
theorem ad_is_int : AdOk C_is_int ts_is_int N_is_int 1 := by
  rintro args R RX hl ⟨x, rfl, h1, h2⟩
  cases x <;> simp [okD] at h1 <;> simp [ts_is_int, startD, isD, isIntS, isBoolS, wB, isIntD] at h2 ⊢ <;> exact h2
@[simp] theorem at_is_int (x : PyData) (R : SV → Prop) (RX : Exn → Prop) : C_is_int [.d x] R RX ↔ (okD x = true ∧ R (.d (.bool (isIntD x)))) := ⟨fun ⟨_, e, h⟩ => by cases e; exact h, fun h => ⟨_, rfl, h⟩⟩
theorem h_is_int (T : Tx K mg) : Has P w K mg base (LK K) "is_int" 1 ["value"] C_is_int := by
  have m_int : mg "int" = none := T.fr "int" (by decide)
  have m_isinstance : mg "isinstance" = none := T.fr "isinstance" (by decide)
  have m_bool : mg "bool" = none := T.fr "bool" (by decide)
  obtain ⟨fd, FD⟩ := T.d_is_int
  refine ⟨fd, ?_, FD.bindsN fun _ _ _ _ _ _ us hl => match us, hl with | [_], _ => rfl, T.g_is_int, FD.kp⟩
  refine fn_ok (ts := ts_is_int) FD sc_is_int (fun cdv A outer s H E hr => ?_) ad_is_int
  have sc := sc_is_int
  exact (ds_one (d_ret (dx_and (dx_isi kit_int (by rfl) m_int (by decide +kernel) (by rfl) m_isinstance (by decide +kernel) (dx_var 0)) (dx_one (dx_not (dx_isi kit_bool (by rfl) m_bool (by decide +kernel) (by rfl) m_isinstance (by decide +kernel) (dx_var 0)))))))
abbrev N_is_int_in : List Str := ["value", "low", "high"]
theorem sc_is_int_in : FnScope N_is_int_in ["value", "low", "high"] (defScope s_is_int_in) := ⟨rfl, rfl, rfl, by decide +kernel, rfl, by decide +kernel, by decide +kernel⟩
def ts_is_int_in : TDs := (sRet true (eAnd (eCall 1 C_is_int (aCons (eV 0) aNil)) (eChain (fun i j => decide (i ≤ j)) (fun i j => decide (i ≤ j)) (eV 1) (eV 0) (eV 2))))
def C_is_int_in : Ctr := fun args R _ => ∃ x lo hi, args = [.d x, .d (.int lo), .d (.int hi)] ∧ okD x = true ∧ R (.d (.bool (inRD x lo hi)))
theorem ad_is_int_in : AdOk C_is_int_in ts_is_int_in N_is_int_in 3 := by
  rintro args R RX hl ⟨x, lo, hi, rfl, h1, h2⟩
  cases x <;> simp [okD] at h1 <;> simp [ts_is_int_in, startD, okD, isIntD, wB, opD, cmpI, inRD] at h2 ⊢
  case int i =>
    by_cases h : lo ≤ i
    · simpa [h] using h2
    · simpa [h] using h2
  all_goals exact h2
@[simp] theorem at_is_int_in (x : PyData) (lo hi : Int) (R : SV → Prop) (RX : Exn → Prop) : C_is_int_in [.d x, .d (.int lo), .d (.int hi)] R RX ↔ (okD x = true ∧ R (.d (.bool (inRD x lo hi)))) := ⟨fun ⟨_, _, _, e, h⟩ => by cases e; exact h, fun h => ⟨_, _, _, rfl, h⟩⟩
theorem h_is_int_in (T : Tx K mg) : Has P w K mg base (LK K) "is_int_in" 2 ["value", "low", "high"] C_is_int_in := by
  obtain ⟨_, F_is_int, B_is_int, M_is_int, K_is_int⟩ := h_is_int (P := P) (w := w) (base := base) T
  obtain ⟨fd, FD⟩ := T.d_is_int_in
  refine ⟨fd, ?_, FD.bindsN fun _ _ _ _ _ _ us hl => match us, hl with | [_, _, _], _ => rfl, T.g_is_int_in, FD.kp⟩
  refine fn_ok (ts := ts_is_int_in) FD sc_is_int_in (fun cdv A outer s H E hr => ?_) ad_is_int_in
  have sc := sc_is_int_in
  exact (ds_one (d_ret (dx_and (dx_call (k := 1) F_is_int takes_cx (by exact hr.mono (by decide)) (by rfl) M_is_int K_is_int B_is_int (da_cons (dx_var 0) da_nil)) (dx_one (dx_chain op_le op_le (dx_var 1) (dx_var 0) (dx_var 2))))))
abbrev N_is_ascending : List Str := ["things", "at"]
theorem sc_is_ascending : FnScope N_is_ascending ["things"] (defScope s_is_ascending) := ⟨rfl, rfl, rfl, by decide +kernel, rfl, by decide +kernel, by decide +kernel⟩
def ts_is_ascending : TDs := (sSeq (sFor (iRng2D (eC (.int 1)) (e1 lenV (eV 0))) (gN 1)
  (sIf (tNotD (tB2 (opD (cmpI fun i j => decide (i < j))) (eIx (eV 0) (eB (opD subD) (eV 1) (eC (.int 1)))) (eIx (eV 0) (eV 1))))
  (sRet true (eC (.bool false)))
  sNil))
  (sRet true (eC (.bool true))))
def C_is_ascending : Ctr := fun args R _ => ∃ l : List Int, args = [.d (iD l)] ∧ l.length ≤ 5000 ∧ R (.d (.bool (ascB l)))
theorem ad_is_ascending : AdOk C_is_ascending ts_is_ascending N_is_ascending 1 := by
  rintro args R RX hl ⟨l, rfl, h0, h⟩
  simp [ts_is_ascending, startD, iD]
  refine ⟨by omega, forL_range (fun k δ => ∃ o, δ = [some (.d (iD l)), o] ∧ ∀ i, i < k → l.getD i 0 < l.getD (i + 1) 0) 1 _ ?_ ?_ _ ⟨none, rfl, fun i hi => by omega⟩⟩
  · rintro k δ K hk hK ⟨o, rfl, hb⟩
    have k1 : k + 1 < l.length := by omega
    have g0 : atI (l.map PyData.int) (1 + (k : Int) - 1) = some (.int (l.getD k 0)) := by
      rw [show 1 + (k : Int) - 1 = (k : Int) by omega, atI_at]; simp [(by omega : k < l.length)]
    have g1 : atI (l.map PyData.int) (1 + (k : Int)) = some (.int (l.getD (k + 1) 0)) := by
      rw [show 1 + (k : Int) = ((k + 1 : Nat) : Int) by omega, atI_at]; simp [k1]
    simp only [iD] at hK ⊢
    simp [g0, g1]
    by_cases c : l.getD k 0 < l.getD (k + 1) 0
    · simp only [List.getD_eq_getElem?_getD] at c
      simp [c]
      refine hK _ ⟨_, rfl, fun i hi => ?_⟩
      rcases Nat.lt_or_ge i k with g | g
      · exact hb i g
      · rw [show i = k by omega]; simpa using c
    · have : ascB l = false := by
        cases e : ascB l with
        | false => rfl
        | true => exact absurd ((ascB_at l).mp e k k1) c
      rw [this] at h
      simp only [List.getD_eq_getElem?_getD] at c
      simp [c]
      exact h
  · rintro δ ⟨o, rfl, hb⟩
    have : ascB l = true := (ascB_at l).mpr fun i hi => hb i (by omega)
    rw [this] at h
    simp
    exact h
theorem h_is_ascending (T : Tx K mg) : Has P w K mg base (LK K) "is_ascending" 1 ["things"] C_is_ascending := by
  have m_range : mg "range" = none := T.fr "range" (by decide)
  have m_len : mg "len" = none := T.fr "len" (by decide)
  obtain ⟨fd, FD⟩ := T.d_is_ascending
  refine ⟨fd, ?_, FD.bindsN fun _ _ _ _ _ _ us hl => match us, hl with | [_], _ => rfl, T.g_is_ascending, FD.kp⟩
  refine fn_ok (ts := ts_is_ascending) FD sc_is_ascending (fun cdv A outer s H E hr => ?_) ad_is_ascending
  have sc := sc_is_ascending
  exact (ds_cons (d_for (by exact passes_of rfl) (by rfl) (di_range2 true (by rfl) m_range dx_int (dx_len (by rfl) m_len (dx_var 0))) (dg_name 1 sc.nd)
  (ds_one (d_if (dt_not (dt_lt (dx_w fb (dx_ix (dx_var 0) (dx_sub (dx_var 1) dx_int))) (dx_w fb (dx_ix (dx_var 0) (dx_var 1)))))
  (ds_one (d_ret dx_bool))
  ds_nil)))
  (ds_one (d_ret dx_bool)))
abbrev N_closure : List Str := ["starts", "followers", "found", "queue", "thing", "at", "follower"]
theorem sc_closure : FnScope N_closure ["starts", "followers"] (defScope s_closure) := ⟨rfl, rfl, rfl, by decide +kernel, rfl, by decide +kernel, by decide +kernel⟩
def ts_closure (kf : Hp) (f : Addr) (F : FnD) : TDs := (sSeq (sSet ff 2 eDNewK)
  (sSeq (sSet ff 3 (eLst aNil))
  (sSeq (sFor (iSeqD fs (eVD 0)) (gN 4)
  (sIf (tDIn true (eV 4) (eV 2))
  (sSeq (sPutD 2 (eC (.bool true)) (eV 4))
  (sApp 3 (eN (eV 4))))
  sNil))
  (sSeq (sSet ff 5 (eC (.int 0)))
  (sSeq (whileD (tB2 (opD (cmpI fun i j => decide (i < j))) (eV 5) (e1 lenV (eV 3)))
  (sSeq (sIf (tB2 (opD (cmpI fun i j => decide (j < i))) (e1 lenV (eV 3)) (eC cv_MOST_REACHED))
  (sRaise "TooMany" ["limit"] (aCons (eC cv_MOST_REACHED) aNil))
  sNil)
  (sSeq (sFor (iSeqD ff (eN (eCallP 1 kf f F (eIx (eV 3) (eV 5))))) (gN 6)
  (sIf (tDIn true (eV 6) (eV 2))
  (sSeq (sPutD 2 (eC (.bool true)) (eV 6))
  (sApp 3 (eN (eV 6))))
  sNil))
  (sAug augA 5 (eC (.int 1))))))
  (sRet true (e1 (un1 tupD) (e1 (un1 sortedD) (eV 3)))))))))
/-- all that a walk from the starts reaches -/
structure Clo (starts : List Nat) (fl : Nat → List Nat) (n : Nat) (P : Nat → Prop) : Prop where
  st : ∀ x ∈ starts, P x
  lt : ∀ x, P x → x < n
  cl : ∀ x, P x → ∀ y ∈ fl x, P y
  ln : ∀ x, P x → (fl x).length ≤ 40
  mn : ∀ Q : Nat → Prop, (∀ x ∈ starts, Q x) → (∀ x, Q x → ∀ y ∈ fl x, Q y) → ∀ x, P x → Q x
def C_closure : FnD → Ctr := fun F args R _ => ∃ (starts : List Nat) (s1 : SV) (fl : Nat → List Nat) (n : Nat) (P : Nat → Prop), args = [.d (nD starts), s1] ∧ starts.length ≤ 40 ∧ n ≤ 40 ∧ Clo starts fl n P ∧ (∀ x, P x → ∀ R' : PyData → Prop, R' (nD (fl x)) → F (kD x) R') ∧ R (.d (nD (lst n P)))
theorem add_loop {g : TDg} {t : TDs} {E : EndsD} (B : List Nat → Option SV → DS) (hs : ∀ (x : Nat) (q : List Nat) (o : Option SV) (K : DS → Prop), (∀ o', K (B (if x ∈ q then q else q ++ [x]) o')) → q.length ≤ 10000 → g (kD x) (B q o) fun δ1 => t δ1 { nx := K, rt := E.rt, xc := E.xc, bk := E.nx, ct := K }) : ∀ (xs q : List Nat) (o : Option SV), q.length + xs.length ≤ 10000 → (∀ o', E.nx (B (addN q xs) o')) → forL g t (xs.map kD) (B q o) E
  | [], q, o, _, h => h o
  | x :: r, q, o, hl, h => by
    rw [List.map_cons, forL_cons]
    simp at hl
    refine hs x q o _ (fun o' => ?_) (by omega)
    rw [addN] at h
    by_cases c : x ∈ q
    · rw [if_pos c] at h ⊢
      exact add_loop B hs r _ o' (by omega) h
    · rw [if_neg c] at h ⊢
      exact add_loop B hs r _ o' (by simp; omega) h
theorem fk_none (q : List Nat) (k : Nat) : (valD (fk q) (Sum.inl (k : Int)) = none) ↔ k ∉ q := by
  have := fk_val q k
  cases e : valD (fk q) (Sum.inl (k : Int)) with
  | none => rw [e] at this; simp at this; simpa using this
  | some z => rw [e] at this; simp at this; simpa using this
theorem sqK (q : List (Key × PyData)) (h : nolK q = true) (k : SV → Prop) : storeV ff (.oK q) k = k (.oK q) := by simp [storeV, h]
theorem len_nx {q : List Nat} {n : Nat} {P : Nat → Prop} (nd : q.Nodup) (h : ∀ x ∈ q, P x) (lt : ∀ x, P x → x < n) : q.length ≤ n := nodup_bound nd fun x hx => lt x (h x hx)
theorem ad_closure : ∀ kf f F args R RX, args.length = 2 → args[1]? = some (.fn kf f) → C_closure F args R RX → ts_closure kf f F (startD N_closure args) { nx := fun _ => R (.d .none), rt := fun _ => R, xc := fun _ => RX } := by
  rintro kf f F args R RX hl h1 ⟨starts, s1, fl, n, P, rfl, hst, hn, C, hF, h⟩
  simp at h1
  subst h1
  have lb : 10000 < sizeLine := by decide
  simp [ts_closure, startD, ownSeq, sqK [] rfl, nD]
  let B : Option SV → Option SV → List Nat → Option SV → DS := fun oa of q o => [some (.d (nD starts)), some (.fn kf f), some (.oK (fk q)), some (.own (q.map kD)), o, oa, of]
  let B2 : Option SV → Option SV → List Nat → Option SV → DS := fun oa o q of => [some (.d (nD starts)), some (.fn kf f), some (.oK (fk q)), some (.own (q.map kD)), o, oa, of]
  show forL _ _ (starts.map kD) (B none none [] none) _
  refine add_loop (B none none) (fun x q o K hK hq => ?_) starts [] none (by simp; omega) fun o' => ?_
  · rw [gN_at]
    have hsz : q.length < sizeLine := by omega
    have := hK (some (.d (kD x)))
    by_cases c : x ∈ q
    · rw [if_pos c] at this
      simpa [B, kD, getV, keyD, fk_none, c] using this
    · rw [if_neg c] at this
      have e := fk_put c
      have fl : (fk q).length = q.length := by simp [fk]
      simpa [B, kD, getV, keyD, fk_none, c, e, fl, hsz] using this
  · have nd0 : (addN [] starts).Nodup := nodup_addN .nil
    have m0 : ∀ x, x ∈ addN [] starts ↔ x ∈ starts := fun x => by rw [mem_addN]; simp
    generalize addN [] starts = q0 at nd0 m0
    refine whileD_inv (fun m δ => ∃ (q : List Nat) (i : Nat) (o of : Option SV), m = n - i ∧ i ≤ q.length ∧ q.Nodup ∧ (∀ x ∈ q, P x) ∧ (∀ x ∈ starts, x ∈ q) ∧ (∀ j, j < i → ∀ y ∈ fl (q.getD j 0), y ∈ q) ∧ δ = B2 (some (.d (.int (i : Nat)))) o q of) ⟨_, q0, 0, o', none, rfl, Nat.zero_le _, nd0, fun x hx => C.st x ((m0 x).mp hx), fun x hx => (m0 x).mpr hx, fun j hj => by omega, rfl⟩ ?_
    rintro m δ K hK ⟨q, i, o, of, rfl, hi, nd, hP, hs, hc, rfl⟩
    have ln := len_nx nd hP C.lt
    by_cases c : i < q.length
    · have g := getM (F := kD) c
      have hx' : P q[i] := hP _ (List.getElem_mem _)
      have hx := hx'
      simp [B2, c, g]
      rw [if_neg (by omega)]
      refine hF _ hx _ ?_
      simp [nD, nol_k]
      show forL _ _ ((fl q[i]).map kD) (B2 (some (.d (.int (i : Nat)))) o q of) _
      refine add_loop (B2 (some (.d (.int (i : Nat)))) o) (fun x q o' K hK hq => ?_) (fl q[i]) q of ?_ fun o' => ?_
      · rw [gN_at]
        have hsz : q.length < sizeLine := by omega
        have := hK (some (.d (kD x)))
        by_cases c : x ∈ q
        · rw [if_pos c] at this
          simpa [B2, kD, getV, keyD, fk_none, c] using this
        · rw [if_neg c] at this
          have e := fk_put c
          have fl : (fk q).length = q.length := by simp [fk]
          simpa [B2, kD, getV, keyD, fk_none, c, e, fl, hsz] using this
      · have := C.ln _ hx'
        omega
      · simp [B2]
        have lt : q.length ≤ n := ln
        refine hK (n - (i + 1)) _ (by omega) ⟨addN q (fl q[i]), i + 1, o, o', rfl, ?_, nodup_addN nd, fun x hx => ?_, fun x hx => mem_addN.mpr (.inl (hs x hx)), fun j hj y hy => ?_, by simp [B2, nD]⟩
        · obtain ⟨r, e⟩ := addN_pre (xs := fl q[i]) (q := q)
          rw [e]; simp; omega
        · rcases mem_addN.mp hx with z | z
          · exact hP x z
          · exact C.cl _ hx' x z
        · obtain ⟨r, e⟩ := addN_pre (xs := fl q[i]) (q := q)
          have ej : (addN q (fl q[i])).getD j 0 = q.getD j 0 := by
            rw [e]; simp [List.getD, List.getElem?_append, (by omega : j < q.length)]
          rw [ej] at hy
          rcases Nat.eq_or_lt_of_le (Nat.le_of_lt_succ hj) with z | z
          · subst z
            have : q.getD j 0 = q[j] := by simp [c]
            rw [this] at hy
            exact mem_addN.mpr (.inr hy)
          · exact mem_addN.mpr (.inl (hc j z y hy))
    · simp [B2, c]
      refine ⟨q.map fun k : Nat => (k : Int), by simp [kD, Function.comp_def], fun ns hp hs' => ?_⟩
      have := sort_lst (n := n) (P := P) nd (fun x => ⟨fun hx => ⟨C.lt x (hP x hx), hP x hx⟩, fun hx => C.mn (· ∈ q) hs (fun x hx y hy => by
        obtain ⟨j, hj, e⟩ := List.getElem_of_mem hx
        have : q.getD j 0 = x := by simp [hj, e]
        exact hc j (by omega) y (by rw [this]; exact hy)) x hx.2⟩) hp hs'
      simp [this, nol_k]
      exact h
theorem h_closure (T : Tx K mg) : HasF P w K mg base (LK K) "closure" 7 6 1 ["starts", "followers"] C_closure := by
  have m_sorted : mg "sorted" = none := T.fr "sorted" (by decide)
  have m_tuple : mg "tuple" = none := T.fr "tuple" (by decide)
  have m_len : mg "len" = none := T.fr "len" (by decide)
  obtain ⟨_, mc_MOST_REACHED⟩ := T.c_MOST_REACHED
  obtain ⟨fd, FD⟩ := T.d_closure
  refine ⟨fd, ?_, FD.bindsN fun _ _ _ _ _ _ us hl => match us, hl with | [_, _], _ => rfl, T.g_closure, FD.kp⟩
  refine fnF_ok (ts := ts_closure) FD sc_closure (fun cdv A outer s H E kf f F hr cap => ?_) ad_closure
  have sc := sc_closure
  exact (ds_cons (d_set 2 sc.nd dx_dnewK)
  (ds_cons (d_set 3 sc.nd (dx_lst da_nil))
  (ds_cons (d_for (by exact passes_of rfl) (by rfl) (di_seq (fl := fs) true (dx_varD 0)) (dg_name 4 sc.nd)
  (ds_one (d_if (dt_dnotin (by exact Room.u1 hr) (dx_var 4) (dx_var 2))
  (ds_cons (d_putD 2 (by exact Room.u1 hr) dx_bool (dx_var 4))
  (ds_one (d_app 3 (dx_n (dx_var 4)))))
  ds_nil)))
  (ds_cons (d_set 5 sc.nd dx_int)
  (ds_cons (d_while (by exact passes_of rfl) (dt_lt (dx_var 5) (dx_len (by rfl) m_len (dx_var 3)))
  (ds_cons (d_if (dt_gt (dx_len (by rfl) m_len (dx_var 3)) (dx_glob_int (by rfl) mc_MOST_REACHED))
  (ds_one (d_raise (fl := ff) (io_TooMany T) (by decide) takes_cx (by rfl) (by exact hr.mono (by decide)) (by rfl) T.g_TooMany (by decide) (da_cons (dx_glob_int (by rfl) mc_MOST_REACHED) da_nil)))
  ds_nil)
  (ds_cons (d_for (by exact passes_of rfl) (by rfl) (di_seq (fl := ff) true (dx_n (dx_callP cap (by exact hr.mono (by decide)) 1 (dx_w fb (dx_ix (dx_var 3) (dx_var 5)))))) (dg_name 6 sc.nd)
  (ds_one (d_if (dt_dnotin (by exact Room.u1 hr) (dx_var 6) (dx_var 2))
  (ds_cons (d_putD 2 (by exact Room.u1 hr) dx_bool (dx_var 6))
  (ds_one (d_app 3 (dx_n (dx_var 6)))))
  ds_nil)))
  (ds_one (d_augAdd 5 sc.nd dx_int)))))
  (ds_one (d_ret (dx_tupc (by rfl) m_tuple (dx_sorted (by rfl) m_sorted (dx_var 3))))))))))
abbrev N_is_row : List Str := ["thing", "before", "tick"]
theorem sc_is_row : FnScope N_is_row ["thing"] (defScope s_is_row) := ⟨rfl, rfl, rfl, by decide +kernel, rfl, by decide +kernel, by decide +kernel⟩
def ts_is_row : TDs := (sSeq (sIf (tOrD (tNotD (tOf (eIsi isTupS (eV 0)))) (tB2 (opD (cmpI fun i j => decide (j < i))) (e1 lenV (eV 0)) (eC cv_MOST_ROW)))
  (sRet true (eC (.bool false)))
  sNil)
  (sSeq (sSet ff 1 (eC (.int 0)))
  (sSeq (sFor (iSeqD fs (eVD 0)) (gN 2)
  (sSeq (sIf (tNotD (tOf (eCall 3 C_is_int_in (aCons (eV 2) (aCons (eV 1) (aCons (eC cv_MOST_TICK) aNil))))))
  (sRet true (eC (.bool false)))
  sNil)
  (sSet fb 1 (eV 2))))
  (sRet true (eC (.bool true))))))
def C_is_row : Ctr := fun args R _ => ∃ l : List Int, args = [.d (iD l)] ∧ VRow l ∧ R (.d (.bool true))
@[simp] theorem at_is_row (l : List Int) (R : SV → Prop) (RX : Exn → Prop) (v : VRow l) (h : R (.d (.bool true))) : C_is_row [.d (iD l)] R RX := ⟨l, rfl, v, h⟩
theorem ad_is_row : AdOk C_is_row ts_is_row N_is_row 1 := by
  rintro args R RX hl ⟨l, rfl, v, h⟩
  have vl := v.len
  simp [ts_is_row, startD, iD, seqV]
  rw [if_neg (by omega)]
  refine forL_list (l.map .int) (fun k δ => ∃ (low : Int) (o : Option SV), δ = [some (.d (iD l)), some (.d (.int low)), o] ∧ ∀ i, k ≤ i → i < l.length → low ≤ l.getD i 0) ?_ ?_ _ ⟨0, none, rfl, fun i _ hi => by
    have := (v.rng (l[i]) (List.getElem_mem _)).1
    simpa [hi] using this⟩
  · rintro k d δ K hd hK ⟨low, o, rfl, hb⟩
    have hk : k < l.length := by have := (List.getElem?_eq_some_iff.mp hd).1; simpa using this
    have ed : d = .int (l.getD k 0) := by simp [hk] at hd; simp [hk, hd]
    subst ed
    have h1 := hb k (Nat.le_refl _) hk
    have h2 := (v.rng (l.getD k 0) (by simp [hk])).2
    have e : inRD (.int (l.getD k 0)) low 400 = true := by simp only [inRD]; simp only [Bool.and_eq_true, decide_eq_true_eq]; exact ⟨h1, h2⟩
    have e' : inRD (.int (l.getD k 0)) low 400 = true := e
    simp only [List.getD_eq_getElem?_getD] at e'
    simp [e']
    refine hK _ ⟨_, _, rfl, fun i hi hil => ?_⟩
    have := v.mono k i (by omega) hil
    simpa using this
  · rintro δ ⟨low, o, rfl, hb⟩
    simp
    exact h
theorem h_is_row (T : Tx K mg) : Has P w K mg base (LK K) "is_row" 3 ["thing"] C_is_row := by
  obtain ⟨_, F_is_int_in, B_is_int_in, M_is_int_in, K_is_int_in⟩ := h_is_int_in (P := P) (w := w) (base := base) T
  have m_tuple : mg "tuple" = none := T.fr "tuple" (by decide)
  have m_isinstance : mg "isinstance" = none := T.fr "isinstance" (by decide)
  have m_len : mg "len" = none := T.fr "len" (by decide)
  obtain ⟨_, mc_MOST_TICK⟩ := T.c_MOST_TICK
  obtain ⟨_, mc_MOST_ROW⟩ := T.c_MOST_ROW
  obtain ⟨fd, FD⟩ := T.d_is_row
  refine ⟨fd, ?_, FD.bindsN fun _ _ _ _ _ _ us hl => match us, hl with | [_], _ => rfl, T.g_is_row, FD.kp⟩
  refine fn_ok (ts := ts_is_row) FD sc_is_row (fun cdv A outer s H E hr => ?_) ad_is_row
  have sc := sc_is_row
  exact (ds_cons (d_if (dt_w (dw_or (dt_not (dt_of (dx_isi kit_tup (by rfl) m_tuple (by decide +kernel) (by rfl) m_isinstance (by decide +kernel) (dx_var 0)))) (dw_or1 (dt_gt (dx_len (by rfl) m_len (dx_var 0)) (dx_glob_int (by rfl) mc_MOST_ROW)))))
  (ds_one (d_ret dx_bool))
  ds_nil)
  (ds_cons (d_set 1 sc.nd dx_int)
  (ds_cons (d_for (by exact passes_of rfl) (by rfl) (di_seq (fl := fs) true (dx_varD 0)) (dg_name 2 sc.nd)
  (ds_cons (d_if (dt_not (dt_of (dx_call (k := 2) F_is_int_in takes_cx (by exact hr.mono (by decide)) (by rfl) M_is_int_in K_is_int_in B_is_int_in (da_cons (dx_var 2) (da_cons (dx_var 1) (da_cons (dx_w fb (dx_glob_int (by rfl) mc_MOST_TICK)) da_nil))))))
  (ds_one (d_ret dx_bool))
  ds_nil)
  (ds_one (d_set 1 sc.nd (dx_var 2)))))
  (ds_one (d_ret dx_bool)))))
abbrev N_check_sides : List Str := ["sends", "arrivals", "late"]
theorem sc_check_sides : FnScope N_check_sides ["sends", "arrivals", "late"] (defScope s_check_sides) := ⟨rfl, rfl, rfl, by decide +kernel, rfl, by decide +kernel, by decide +kernel⟩
def ts_check_sides : TDs := (sSeq (sIf (tNotD (tOf (eCall 1 C_is_row (aCons (eV 0) aNil))))
  (sRaise "BadBook" ["part"] (aCons (eC (.int 0)) aNil))
  sNil)
  (sSeq (sIf (tNotD (tOf (eCall 1 C_is_row (aCons (eV 1) aNil))))
  (sRaise "BadBook" ["part"] (aCons (eC (.int 1)) aNil))
  sNil)
  (sIf (tNotD (tOf (eCall 3 C_is_int_in (aCons (eV 2) (aCons (eC (.int 0)) (aCons (eC cv_MOST_TICK) aNil))))))
  (sRaise "BadBook" ["part"] (aCons (eC (.int 2)) aNil))
  sNil)))
def C_check_sides : Ctr := fun args R _ => ∃ (S A : List Int) (L : Int), args = [.d (iD S), .d (iD A), .d (.int L)] ∧ Sides S A L ∧ R (.d .none)
theorem at_check_sides {S A : List Int} {L : Int} {R : SV → Prop} {RX : Exn → Prop} (v : Sides S A L) (h : R (.d .none)) : C_check_sides [.d (iD S), .d (iD A), .d (.int L)] R RX := ⟨S, A, L, rfl, v, h⟩
theorem ad_check_sides : AdOk C_check_sides ts_check_sides N_check_sides 3 := by
  rintro args R RX hl ⟨S, A, L, rfl, v, h⟩
  simp [ts_check_sides, startD]
  refine ⟨S, rfl, v.s, ?_⟩
  simp
  refine ⟨A, rfl, v.a, ?_⟩
  have h0 := v.l0
  have h1 := v.l1
  simp [inRD, h0, h1]
  exact h
theorem h_check_sides (T : Tx K mg) : Has P w K mg base (LK K) "check_sides" 4 ["sends", "arrivals", "late"] C_check_sides := by
  obtain ⟨_, F_is_int_in, B_is_int_in, M_is_int_in, K_is_int_in⟩ := h_is_int_in (P := P) (w := w) (base := base) T
  obtain ⟨_, F_is_row, B_is_row, M_is_row, K_is_row⟩ := h_is_row (P := P) (w := w) (base := base) T
  obtain ⟨_, mc_MOST_TICK⟩ := T.c_MOST_TICK
  obtain ⟨fd, FD⟩ := T.d_check_sides
  refine ⟨fd, ?_, FD.bindsN fun _ _ _ _ _ _ us hl => match us, hl with | [_, _, _], _ => rfl, T.g_check_sides, FD.kp⟩
  refine fn_ok (ts := ts_check_sides) FD sc_check_sides (fun cdv A outer s H E hr => ?_) ad_check_sides
  have sc := sc_check_sides
  exact (ds_cons (d_if (dt_not (dt_of (dx_call (k := 3) F_is_row takes_cx (by exact hr.mono (by decide)) (by rfl) M_is_row K_is_row B_is_row (da_cons (dx_var 0) da_nil))))
  (ds_one (d_raise (fl := ff) (io_BadBook T) (by decide) takes_cx (by rfl) (by exact hr.mono (by decide)) (by rfl) T.g_BadBook (by decide) (da_cons dx_int da_nil)))
  ds_nil)
  (ds_cons (d_if (dt_not (dt_of (dx_call (k := 3) F_is_row takes_cx (by exact hr.mono (by decide)) (by rfl) M_is_row K_is_row B_is_row (da_cons (dx_var 1) da_nil))))
  (ds_one (d_raise (fl := ff) (io_BadBook T) (by decide) takes_cx (by rfl) (by exact hr.mono (by decide)) (by rfl) T.g_BadBook (by decide) (da_cons dx_int da_nil)))
  ds_nil)
  (ds_one (d_if (dt_not (dt_of (dx_call (k := 2) F_is_int_in takes_cx (by exact hr.mono (by decide)) (by rfl) M_is_int_in K_is_int_in B_is_int_in (da_cons (dx_var 2) (da_cons (dx_w fb dx_int) (da_cons (dx_w fb (dx_glob_int (by rfl) mc_MOST_TICK)) da_nil))))))
  (ds_one (d_raise (fl := ff) (io_BadBook T) (by decide) takes_cx (by rfl) (by exact hr.mono (by decide)) (by rfl) T.g_BadBook (by decide) (da_cons dx_int da_nil)))
  ds_nil))))
abbrev N_check_losses : List Str := ["losses"]
theorem sc_check_losses : FnScope N_check_losses ["losses"] (defScope s_check_losses) := ⟨rfl, rfl, rfl, by decide +kernel, rfl, by decide +kernel, by decide +kernel⟩
def ts_check_losses : TDs := (sIf (tNotD (tOf (eCall 3 C_is_int_in (aCons (eV 0) (aCons (eC (.int 0)) (aCons (eC cv_MOST_ROW) aNil))))))
  (sRaise "BadBook" ["part"] (aCons (eC (.int 3)) aNil))
  sNil)
def C_check_losses : Ctr := fun args R _ => ∃ n : Int, args = [.d (.int n)] ∧ 0 ≤ n ∧ n ≤ 40 ∧ R (.d .none)
theorem at_check_losses {n : Int} {R : SV → Prop} {RX : Exn → Prop} (h0 : 0 ≤ n) (h1 : n ≤ 40) (h : R (.d .none)) : C_check_losses [.d (.int n)] R RX := ⟨n, rfl, h0, h1, h⟩
theorem ad_check_losses : AdOk C_check_losses ts_check_losses N_check_losses 1 := by
  rintro args R RX hl ⟨n, rfl, h0, h1, h⟩
  simp [ts_check_losses, startD, inRD, h0, h1]
  exact h
theorem h_check_losses (T : Tx K mg) : Has P w K mg base (LK K) "check_losses" 3 ["losses"] C_check_losses := by
  obtain ⟨_, F_is_int_in, B_is_int_in, M_is_int_in, K_is_int_in⟩ := h_is_int_in (P := P) (w := w) (base := base) T
  obtain ⟨_, mc_MOST_ROW⟩ := T.c_MOST_ROW
  obtain ⟨fd, FD⟩ := T.d_check_losses
  refine ⟨fd, ?_, FD.bindsN fun _ _ _ _ _ _ us hl => match us, hl with | [_], _ => rfl, T.g_check_losses, FD.kp⟩
  refine fn_ok (ts := ts_check_losses) FD sc_check_losses (fun cdv A outer s H E hr => ?_) ad_check_losses
  have sc := sc_check_losses
  exact (ds_one (d_if (dt_not (dt_of (dx_call (k := 2) F_is_int_in takes_cx (by exact hr.mono (by decide)) (by rfl) M_is_int_in K_is_int_in B_is_int_in (da_cons (dx_var 0) (da_cons (dx_w fb dx_int) (da_cons (dx_w fb (dx_glob_int (by rfl) mc_MOST_ROW)) da_nil))))))
  (ds_one (d_raise (fl := ff) (io_BadBook T) (by decide) takes_cx (by rfl) (by exact hr.mono (by decide)) (by rfl) T.g_BadBook (by decide) (da_cons dx_int da_nil)))
  ds_nil))
abbrev N_check_duplicates : List Str := ["duplicates"]
theorem sc_check_duplicates : FnScope N_check_duplicates ["duplicates"] (defScope s_check_duplicates) := ⟨rfl, rfl, rfl, by decide +kernel, rfl, by decide +kernel, by decide +kernel⟩
def ts_check_duplicates : TDs := (sIf (tNotD (tOf (eCall 3 C_is_int_in (aCons (eV 0) (aCons (eC (.int 0)) (aCons (eC cv_MOST_ROW) aNil))))))
  (sRaise "BadBook" ["part"] (aCons (eC (.int 4)) aNil))
  sNil)
def C_check_duplicates : Ctr := fun args R _ => ∃ n : Int, args = [.d (.int n)] ∧ 0 ≤ n ∧ n ≤ 40 ∧ R (.d .none)
theorem at_check_duplicates {n : Int} {R : SV → Prop} {RX : Exn → Prop} (h0 : 0 ≤ n) (h1 : n ≤ 40) (h : R (.d .none)) : C_check_duplicates [.d (.int n)] R RX := ⟨n, rfl, h0, h1, h⟩
theorem ad_check_duplicates : AdOk C_check_duplicates ts_check_duplicates N_check_duplicates 1 := by
  rintro args R RX hl ⟨n, rfl, h0, h1, h⟩
  simp [ts_check_duplicates, startD, inRD, h0, h1]
  exact h
theorem h_check_duplicates (T : Tx K mg) : Has P w K mg base (LK K) "check_duplicates" 3 ["duplicates"] C_check_duplicates := by
  obtain ⟨_, F_is_int_in, B_is_int_in, M_is_int_in, K_is_int_in⟩ := h_is_int_in (P := P) (w := w) (base := base) T
  obtain ⟨_, mc_MOST_ROW⟩ := T.c_MOST_ROW
  obtain ⟨fd, FD⟩ := T.d_check_duplicates
  refine ⟨fd, ?_, FD.bindsN fun _ _ _ _ _ _ us hl => match us, hl with | [_], _ => rfl, T.g_check_duplicates, FD.kp⟩
  refine fn_ok (ts := ts_check_duplicates) FD sc_check_duplicates (fun cdv A outer s H E hr => ?_) ad_check_duplicates
  have sc := sc_check_duplicates
  exact (ds_one (d_if (dt_not (dt_of (dx_call (k := 2) F_is_int_in takes_cx (by exact hr.mono (by decide)) (by rfl) M_is_int_in K_is_int_in B_is_int_in (da_cons (dx_var 0) (da_cons (dx_w fb dx_int) (da_cons (dx_w fb (dx_glob_int (by rfl) mc_MOST_ROW)) da_nil))))))
  (ds_one (d_raise (fl := ff) (io_BadBook T) (by decide) takes_cx (by rfl) (by exact hr.mono (by decide)) (by rfl) T.g_BadBook (by decide) (da_cons dx_int da_nil)))
  ds_nil))
abbrev N_send_rows : List Str := ["sends", "arrivals", "late", "at", "send"]
theorem sc_send_rows : FnScope N_send_rows ["sends", "arrivals", "late"] (defScope s_send_rows) := ⟨rfl, rfl, rfl, by decide +kernel, rfl, by decide +kernel, by decide +kernel⟩
def ts_send_rows : TDs := (sRet true (e1 (un1 tupD) (lcD (iVarD 0) (gN 4) tYesD (e1 (un1 tupD) (lcD (iRng1D (e1 lenV (eV 1))) (gN 3) (tChainD (fun i j => decide (i ≤ j)) (fun i j => decide (i ≤ j)) (eV 4) (eIx (eV 1) (eV 3)) (eB addV (eV 4) (eV 2))) (eN (eV 3)) [3])) [4])))
theorem part_cases {L s a : Int} {P Q : Prop} (h1 : N50.part L s a = true → P) (h0 : N50.part L s a = false → Q) : if s ≤ a then (if a ≤ s + L then P else Q) else Q := by
  by_cases c1 : s ≤ a <;> by_cases c2 : a ≤ s + L
  · rw [if_pos c1, if_pos c2]; exact h1 (by simp [N50.part, c1, c2])
  · rw [if_pos c1, if_neg c2]; exact h0 (by simp [N50.part, c1, c2])
  · rw [if_neg c1]; exact h0 (by simp [N50.part, c1, c2])
  · rw [if_neg c1]; exact h0 (by simp [N50.part, c1, c2])
def C_send_rows : Ctr := fun args R _ => ∃ (S A : List Int) (L : Int), args = [.d (iD S), .d (iD A), .d (.int L)] ∧ Sides S A L ∧ R (.d (rD (sRows S A L)))
theorem at_send_rows {S A : List Int} {L : Int} {R : SV → Prop} {RX : Exn → Prop} (v : Sides S A L) (h : R (.d (rD (sRows S A L)))) : C_send_rows [.d (iD S), .d (iD A), .d (.int L)] R RX := ⟨S, A, L, rfl, v, h⟩
theorem ad_send_rows : AdOk C_send_rows ts_send_rows N_send_rows 3 := by
  rintro args R RX hl ⟨S, A, L, rfl, v, h⟩
  have hS := v.s.len
  have hA := v.a.len
  simp [ts_send_rows, startD, iD, lcD, ownSeq]
  refine ⟨by omega, lcL_of .int (fun _ => true) (fun s => nD (sRow A L s)) S [] (fun s hs k1 k0 a b => ?_) ?_⟩
  · simp [wipeD, lcD]
    refine ⟨by omega, by rw [rangeD_len]; omega, ?_⟩
    refine lcL_range A.length (fun k => N50.part L s (A.getD k 0)) kD (fun k hk k1' k0' a' b' => ?_) ?_
    · have e := getI hk
      generalize A.getD k 0 = y at e a' b'
      simp [e]
      exact part_cases a' b'
    · exact ⟨nol_k _, a rfl⟩
  · rw [filt_true]
    exact ⟨nol_map (fun _ => nolist_nD _) S, by simpa [rD, sRows, List.map_map, Function.comp_def] using h⟩
theorem h_send_rows (T : Tx K mg) : Has P w K mg base (LK K) "send_rows" 1 ["sends", "arrivals", "late"] C_send_rows := by
  have m_range : mg "range" = none := T.fr "range" (by decide)
  have m_len : mg "len" = none := T.fr "len" (by decide)
  have m_tuple : mg "tuple" = none := T.fr "tuple" (by decide)
  obtain ⟨fd, FD⟩ := T.d_send_rows
  refine ⟨fd, ?_, FD.bindsN fun _ _ _ _ _ _ us hl => match us, hl with | [_, _, _], _ => rfl, T.g_send_rows, FD.kp⟩
  refine fn_ok (ts := ts_send_rows) FD sc_send_rows (fun cdv A outer s H E hr => ?_) ad_send_rows
  have sc := sc_send_rows
  exact (ds_one (d_ret (dx_tupc (by rfl) m_tuple (dx_lc (own := [("send", 4)]) sc.nd (di_var 0) (blkOk_by (own := [("send", 4)]) (N := N_send_rows) (sc := defScope s_send_rows) (by decide +kernel)) (fun _ _ _ _ _ => (dg_name 4 sc.nd)) (fun _ _ _ _ _ => dts_nil) (fun _ _ _ _ _ => (dx_tupc (by rfl) m_tuple (dx_lc (own := [("at", 3)]) sc.nd (di_range1 false (by rfl) m_range (dx_len (by rfl) m_len (dx_var 1))) (blkOk_by (own := [("at", 3)]) (N := N_send_rows) (by kernel_rfl)) (fun _ _ _ _ _ => (dg_name 3 sc.nd)) (fun _ _ _ _ _ => (dts_one (dt_chain op_le op_le (dx_var 4) (dx_w fb (dx_ix (dx_var 1) (dx_var 3))) (dx_add (dx_var 4) (dx_var 2))))) (fun _ _ _ _ _ => (dx_n (dx_var 3))))))))))
abbrev N_arrival_rows : List Str := ["sends", "arrivals", "late", "at", "arrival"]
theorem sc_arrival_rows : FnScope N_arrival_rows ["sends", "arrivals", "late"] (defScope s_arrival_rows) := ⟨rfl, rfl, rfl, by decide +kernel, rfl, by decide +kernel, by decide +kernel⟩
def ts_arrival_rows : TDs := (sRet true (e1 (un1 tupD) (lcD (iVarD 1) (gN 4) tYesD (e1 (un1 tupD) (lcD (iRng1D (e1 lenV (eV 0))) (gN 3) (tChainD (fun i j => decide (i ≤ j)) (fun i j => decide (i ≤ j)) (eIx (eV 0) (eV 3)) (eV 4) (eB addV (eIx (eV 0) (eV 3)) (eV 2))) (eN (eV 3)) [3])) [4])))
def C_arrival_rows : Ctr := fun args R _ => ∃ (S A : List Int) (L : Int), args = [.d (iD S), .d (iD A), .d (.int L)] ∧ Sides S A L ∧ R (.d (rD (aRows S A L)))
theorem at_arrival_rows {S A : List Int} {L : Int} {R : SV → Prop} {RX : Exn → Prop} (v : Sides S A L) (h : R (.d (rD (aRows S A L)))) : C_arrival_rows [.d (iD S), .d (iD A), .d (.int L)] R RX := ⟨S, A, L, rfl, v, h⟩
theorem ad_arrival_rows : AdOk C_arrival_rows ts_arrival_rows N_arrival_rows 3 := by
  rintro args R RX hl ⟨S, A, L, rfl, v, h⟩
  have hS := v.s.len
  have hA := v.a.len
  simp [ts_arrival_rows, startD, iD, lcD, ownSeq]
  refine ⟨by omega, lcL_of .int (fun _ => true) (fun s => nD (aRow S L s)) A [] (fun s hs k1 k0 a b => ?_) ?_⟩
  · simp [wipeD, lcD]
    refine ⟨by omega, by rw [rangeD_len]; omega, ?_⟩
    refine lcL_range S.length (fun k => N50.part L (S.getD k 0) s) kD (fun k hk k1' k0' a' b' => ?_) ?_
    · have e := getI hk
      generalize S.getD k 0 = y at e a' b'
      simp [e]
      exact part_cases a' b'
    · exact ⟨nol_k _, a rfl⟩
  · rw [filt_true]
    exact ⟨nol_map (fun _ => nolist_nD _) A, by simpa [rD, aRows, List.map_map, Function.comp_def] using h⟩
theorem h_arrival_rows (T : Tx K mg) : Has P w K mg base (LK K) "arrival_rows" 1 ["sends", "arrivals", "late"] C_arrival_rows := by
  have m_range : mg "range" = none := T.fr "range" (by decide)
  have m_len : mg "len" = none := T.fr "len" (by decide)
  have m_tuple : mg "tuple" = none := T.fr "tuple" (by decide)
  obtain ⟨fd, FD⟩ := T.d_arrival_rows
  refine ⟨fd, ?_, FD.bindsN fun _ _ _ _ _ _ us hl => match us, hl with | [_, _, _], _ => rfl, T.g_arrival_rows, FD.kp⟩
  refine fn_ok (ts := ts_arrival_rows) FD sc_arrival_rows (fun cdv A outer s H E hr => ?_) ad_arrival_rows
  have sc := sc_arrival_rows
  exact (ds_one (d_ret (dx_tupc (by rfl) m_tuple (dx_lc (own := [("arrival", 4)]) sc.nd (di_var 1) (blkOk_by (own := [("arrival", 4)]) (N := N_arrival_rows) (sc := defScope s_arrival_rows) (by decide +kernel)) (fun _ _ _ _ _ => (dg_name 4 sc.nd)) (fun _ _ _ _ _ => dts_nil) (fun _ _ _ _ _ => (dx_tupc (by rfl) m_tuple (dx_lc (own := [("at", 3)]) sc.nd (di_range1 false (by rfl) m_range (dx_len (by rfl) m_len (dx_var 0))) (blkOk_by (own := [("at", 3)]) (N := N_arrival_rows) (by kernel_rfl)) (fun _ _ _ _ _ => (dg_name 3 sc.nd)) (fun _ _ _ _ _ => (dts_one (dt_chain op_le op_le (dx_w fb (dx_ix (dx_var 0) (dx_var 3))) (dx_var 4) (dx_add (dx_w fb (dx_ix (dx_var 0) (dx_var 3))) (dx_var 2))))) (fun _ _ _ _ _ => (dx_n (dx_var 3))))))))))
abbrev N_first_orphan : List Str := ["sends", "arrivals", "late", "at", "row"]
theorem sc_first_orphan : FnScope N_first_orphan ["sends", "arrivals", "late"] (defScope s_first_orphan) := ⟨rfl, rfl, rfl, by decide +kernel, rfl, by decide +kernel, by decide +kernel⟩
def ts_first_orphan : TDs := (sSeq (sFor (iEnumD ff (eCall 3 C_arrival_rows (aCons (eV 0) (aCons (eV 1) (aCons (eV 2) aNil))))) (gT 2 (gsCons (gN 3) (gsCons (gN 4) gsNil)))
  (sIf (tB2 (opD eqD) (eV 4) (eTup aNil))
  (sRet false (eV 3))
  sNil))
  (sRet true (eC .none)))
def orph (S A : List Int) (L : Int) : Option Nat := (List.range A.length).find? fun k => (rowA S A L k).isEmpty
def C_first_orphan : Ctr := fun args R _ => ∃ (S A : List Int) (L : Int), args = [.d (iD S), .d (iD A), .d (.int L)] ∧ Sides S A L ∧ R (.d (oD (orph S A L)))
theorem at_first_orphan {S A : List Int} {L : Int} {R : SV → Prop} {RX : Exn → Prop} (v : Sides S A L) (h : R (.d (oD (orph S A L)))) : C_first_orphan [.d (iD S), .d (iD A), .d (.int L)] R RX := ⟨S, A, L, rfl, v, h⟩
theorem rowA_at {S A : List Int} {L : Int} {k : Nat} {d : PyData} (h : ((aRows S A L).map nD)[k]? = some d) : k < A.length ∧ d = nD (rowA S A L k) := by
  rw [aRows, List.map_map, List.getElem?_map] at h
  have hk : k < A.length := by
    rcases Nat.lt_or_ge k A.length with g | g
    · exact g
    · rw [List.getElem?_eq_none_iff.mpr g] at h; cases h
  simp [hk] at h
  exact ⟨hk, by rw [← h]; simp [rowA, hk]⟩
theorem ad_first_orphan : AdOk C_first_orphan ts_first_orphan N_first_orphan 3 := by
  rintro args R RX hl ⟨S, A, L, rfl, v, h⟩
  simp [ts_first_orphan, startD]
  refine at_arrival_rows v ?_
  simp [rD, seqV, ownSeq]
  refine forL_enum _ (fun k δ => ∃ o1 o2, δ = [some (SV.d (iD S)), some (SV.d (iD A)), some (SV.d (PyData.int L)), o1, o2] ∧ ∀ i, i < k → (rowA S A L i).isEmpty = false) ?_ ?_ _ ⟨_, _, rfl, fun i hi => by omega⟩
  · rintro k d δ K hd hK ⟨o1, o2, rfl, hb⟩
    obtain ⟨hk, rfl⟩ := rowA_at hd
    simp [eqD_nilT]
    cases e : (rowA S A L k).isEmpty with
    | true =>
      have e' := List.isEmpty_iff.mp e
      simp [e']
      have : orph S A L = some k := by
        unfold orph
        rw [List.find?_range_eq_some]
        exact ⟨e, by simp [hk], fun j hj => by rw [hb j hj]; rfl⟩
      rw [this] at h
      exact h
    | false =>
      have e' : rowA S A L k ≠ [] := by intro z; rw [z] at e; cases e
      simp [e']
      refine hK _ ⟨_, _, rfl, fun i hi => ?_⟩
      rcases Nat.eq_or_lt_of_le (Nat.le_of_lt_succ hi) with g | g
      · subst g; exact e
      · exact hb i g
  · rintro δ ⟨o1, o2, rfl, hb⟩
    have ln : ((aRows S A L).map nD).length = A.length := by simp [aRows]
    rw [ln] at hb
    have : orph S A L = none := by
      unfold orph
      rw [List.find?_range_eq_none]
      exact fun j hj => by rw [hb j hj]; rfl
    rw [this] at h
    exact h
theorem h_first_orphan (T : Tx K mg) : Has P w K mg base (LK K) "first_orphan" 2 ["sends", "arrivals", "late"] C_first_orphan := by
  obtain ⟨_, F_arrival_rows, B_arrival_rows, M_arrival_rows, K_arrival_rows⟩ := h_arrival_rows (P := P) (w := w) (base := base) T
  have m_enumerate : mg "enumerate" = none := T.fr "enumerate" (by decide)
  obtain ⟨fd, FD⟩ := T.d_first_orphan
  refine ⟨fd, ?_, FD.bindsN fun _ _ _ _ _ _ us hl => match us, hl with | [_, _, _], _ => rfl, T.g_first_orphan, FD.kp⟩
  refine fn_ok (ts := ts_first_orphan) FD sc_first_orphan (fun cdv A outer s H E hr => ?_) ad_first_orphan
  have sc := sc_first_orphan
  exact (ds_cons (d_for (by exact passes_of rfl) (by rfl) (di_enum (fl := ff) true (by rfl) m_enumerate (dx_call (k := 1) F_arrival_rows takes_cx (by exact hr.mono (by decide)) (by rfl) M_arrival_rows K_arrival_rows B_arrival_rows (da_cons (dx_var 0) (da_cons (dx_var 1) (da_cons (dx_var 2) da_nil))))) (dg_tup (by rfl) (dgs_name 3 sc.nd (dgs_name 4 sc.nd dgs_nil)))
  (ds_one (d_if (dt_eq (by exact hr.units) (dx_var 4) (dx_tup da_nil))
  (ds_one (d_ret (dx_var 3)))
  ds_nil)))
  (ds_one (d_ret dx_none)))
abbrev N_greedy_sends : List Str := ["sends", "arrivals", "late", "taken", "at", "arrival"]
theorem sc_greedy_sends : FnScope N_greedy_sends ["sends", "arrivals", "late"] (defScope s_greedy_sends) := ⟨rfl, rfl, rfl, by decide +kernel, rfl, by decide +kernel, by decide +kernel⟩
def ts_greedy_sends : TDs := (sSeq (sSet ff 3 (eLst aNil))
  (sSeq (sSet ff 4 (eC (.int 0)))
  (sSeq (sFor (iSeqD fs (eVD 1)) (gN 5)
  (sSeq (whileD (tAndD (tB2 (opD (cmpI fun i j => decide (i < j))) (eV 4) (e1 lenV (eV 0))) (tB2 (opD (cmpI fun i j => decide (i < j))) (eB addV (eIx (eV 0) (eV 4)) (eV 2)) (eV 5)))
  (sAug augA 4 (eC (.int 1))))
  (sIf (tAndD (tB2 (opD (cmpI fun i j => decide (i < j))) (eV 4) (e1 lenV (eV 0))) (tB2 (opD (cmpI fun i j => decide (i ≤ j))) (eIx (eV 0) (eV 4)) (eV 5)))
  (sSeq (sApp 3 (eN (eV 4)))
  (sAug augA 4 (eC (.int 1))))
  (sApp 3 (eC .none)))))
  (sRet true (e1 (un1 tupD) (eV 3))))))
theorem skip_fuel {S : List Int} {L a : Int} : ∀ (f g p : Nat), S.length ≤ p + f → S.length ≤ p + g → skip S L a f p = skip S L a g p
  | 0, 0, p, _, _ => rfl
  | 0, g + 1, p, h, _ => by rw [skip, skip, if_neg (by omega)]
  | f + 1, 0, p, _, h => by rw [skip, skip, if_neg (by omega)]
  | f + 1, g + 1, p, h1, h2 => by
    rw [skip, skip]
    split
    · exact skip_fuel f g (p + 1) (by omega) (by omega)
    · rfl
theorem skip_step {S : List Int} {L a : Int} {p : Nat} (h : p < S.length) (h2 : S.getD p 0 + L < a) : skip S L a S.length p = skip S L a S.length (p + 1) := by
  obtain ⟨n, e⟩ : ∃ n, S.length = n + 1 := ⟨S.length - 1, by omega⟩
  rw [e, skip, if_pos ⟨by omega, h2⟩]
  exact skip_fuel n (n + 1) (p + 1) (by omega) (by omega)
theorem skip_stop {S : List Int} {L a : Int} {p : Nat} (h : ¬ (p < S.length ∧ S.getD p 0 + L < a)) : skip S L a S.length p = p := by
  cases e : S.length with
  | zero => rfl
  | succ n => rw [skip, if_neg h]
def C_greedy_sends : Ctr := fun args R _ => ∃ (S A : List Int) (L : Int), args = [.d (iD S), .d (iD A), .d (.int L)] ∧ Sides S A L ∧ R (.d (.tuple ((grd S L 0 A).map oD)))
theorem at_greedy_sends {S A : List Int} {L : Int} {R : SV → Prop} {RX : Exn → Prop} (v : Sides S A L) (h : R (.d (.tuple ((grd S L 0 A).map oD)))) : C_greedy_sends [.d (iD S), .d (iD A), .d (.int L)] R RX := ⟨S, A, L, rfl, v, h⟩
theorem ad_greedy_sends : AdOk C_greedy_sends ts_greedy_sends N_greedy_sends 3 := by
  rintro args R RX hl ⟨S, A, L, rfl, v, h⟩
  have hS := v.s.len
  have hA := v.a.len
  have lb := line_big
  simp [ts_greedy_sends, startD, iD, ownSeq, seqV]
  refine forL_inv (fun r δ => ∃ (ri : List Int) (p : Nat) (T : List (Option Nat)) (o : Option SV), r = ri.map .int ∧ δ = [some (.d (.tuple (S.map .int))), some (.d (.tuple (A.map .int))), some (.d (.int L)), some (.own (T.map oD)), some (.d (.int (p : Nat))), o] ∧ T ++ grd S L p ri = grd S L 0 A) ?_ ?_ _ _ ⟨A, 0, [], none, rfl, rfl, rfl⟩
  · rintro d r δ K hK ⟨ri, p, T, o, er, rfl, hT⟩
    obtain ⟨a, ri', rfl, rfl⟩ : ∃ a ri', ri = a :: ri' ∧ d = .int a := by
      cases ri with
      | nil => cases er
      | cons a ri' => injection er with e1 e2; exact ⟨a, ri', rfl, e1⟩
    injection er with _ er
    rw [gN_at]
    simp
    have Tl : T.length < sizeLine := by
      have := congrArg List.length hT
      rw [List.length_append, grd_len, grd_len] at this
      simp at this
      omega
    refine whileD_inv (fun n δ => ∃ p' : Nat, n = S.length - p' ∧ skip S L a S.length p = skip S L a S.length p' ∧ δ = [some (.d (.tuple (S.map .int))), some (.d (.tuple (A.map .int))), some (.d (.int L)), some (.own (T.map oD)), some (.d (.int (p' : Nat))), some (.d (.int a))]) ⟨_, p, rfl, rfl, rfl⟩ ?_
    rintro n δ K2 hK2 ⟨p', rfl, hw, rfl⟩
    have next : ∀ (T' : List (Option Nat)) (p'' : Nat), T' ++ grd S L p'' ri' = grd S L 0 A → K [some (.d (.tuple (S.map .int))), some (.d (.tuple (A.map .int))), some (.d (.int L)), some (.own (T'.map oD)), some (.d (.int (p'' : Nat))), some (.d (.int a))] := fun T' p'' e => hK _ ⟨ri', p'', T', _, er, rfl, e⟩
    rw [grd, hw] at hT
    by_cases c1 : p' < S.length
    · have g := getI c1
      have c1' : (p' : Int) < S.length := by omega
      by_cases c2 : S.getD p' 0 + L < a
      · have hw' := hw.trans (skip_step c1 c2)
        generalize S.getD p' 0 = y at g c2
        simp [g, c2, c1]
        refine hK2 (S.length - (p' + 1)) _ (by omega) ⟨p' + 1, rfl, hw', ?_⟩
        simp
      · rw [skip_stop (fun z => c2 z.2)] at hT
        by_cases c3 : S.getD p' 0 ≤ a
        · rw [if_pos ⟨c1, c3⟩] at hT
          generalize S.getD p' 0 = y at g c2 c3
          simp [g, c2, c1, c3, Tl]
          have := next (T ++ [some p']) (p' + 1) (by simpa using hT)
          simpa [oD] using this
        · rw [if_neg (fun z => c3 z.2)] at hT
          generalize S.getD p' 0 = y at g c2 c3
          simp [g, c2, c1, c3, Tl]
          have := next (T ++ [none]) p' (by simpa using hT)
          simpa [oD] using this
    · have c1' : ¬ (p' : Int) < S.length := by omega
      rw [skip_stop (fun z => c1 z.1), if_neg (fun z => c1 z.1)] at hT
      simp [c1, Tl]
      have := next (T ++ [none]) p' (by simpa using hT)
      simpa [oD] using this
  · rintro δ ⟨ri, p, T, o, er, rfl, hT⟩
    have : ri = [] := by cases ri <;> simp at er ⊢
    subst this
    simp [grd] at hT
    subst hT
    simp [nol_o]
    exact h
theorem h_greedy_sends (T : Tx K mg) : Has P w K mg base (LK K) "greedy_sends" 1 ["sends", "arrivals", "late"] C_greedy_sends := by
  have m_tuple : mg "tuple" = none := T.fr "tuple" (by decide)
  have m_len : mg "len" = none := T.fr "len" (by decide)
  obtain ⟨fd, FD⟩ := T.d_greedy_sends
  refine ⟨fd, ?_, FD.bindsN fun _ _ _ _ _ _ us hl => match us, hl with | [_, _, _], _ => rfl, T.g_greedy_sends, FD.kp⟩
  refine fn_ok (ts := ts_greedy_sends) FD sc_greedy_sends (fun cdv A outer s H E hr => ?_) ad_greedy_sends
  have sc := sc_greedy_sends
  exact (ds_cons (d_set 3 sc.nd (dx_lst da_nil))
  (ds_cons (d_set 4 sc.nd dx_int)
  (ds_cons (d_for (by exact passes_of rfl) (by rfl) (di_seq (fl := fs) true (dx_varD 1)) (dg_name 5 sc.nd)
  (ds_cons (d_while (by exact passes_of rfl) (dt_w (dw_and (dt_lt (dx_var 4) (dx_len (by rfl) m_len (dx_var 0))) (dw_and1 (dt_lt (dx_add (dx_w fb (dx_ix (dx_var 0) (dx_var 4))) (dx_var 2)) (dx_var 5)))))
  (ds_one (d_augAdd 4 sc.nd dx_int)))
  (ds_one (d_if (dt_w (dw_and (dt_lt (dx_var 4) (dx_len (by rfl) m_len (dx_var 0))) (dw_and1 (dt_le (dx_w fb (dx_ix (dx_var 0) (dx_var 4))) (dx_var 5)))))
  (ds_cons (d_app 3 (dx_n (dx_var 4)))
  (ds_one (d_augAdd 4 sc.nd dx_int)))
  (ds_one (d_app 3 dx_none))))))
  (ds_one (d_ret (dx_tupc (by rfl) m_tuple (dx_var 3)))))))
abbrev N_pair_count : List Str := ["sends", "arrivals", "late", "send"]
theorem sc_pair_count : FnScope N_pair_count ["sends", "arrivals", "late"] (defScope s_pair_count) := ⟨rfl, rfl, rfl, by decide +kernel, rfl, by decide +kernel, by decide +kernel⟩
def ts_pair_count : TDs := (sRet true (e1 lenV (lcD (iSeqD ff (eCall 3 C_greedy_sends (aCons (eV 0) (aCons (eV 1) (aCons (eV 2) aNil))))) (gN 3) (tNotN (eV 3)) (eN (eV 3)) [3])))
def cntS (S A : List Int) (L : Int) : Nat := ((grd S L 0 A).filter Option.isSome).length
def C_pair_count : Ctr := fun args R _ => ∃ (S A : List Int) (L : Int), args = [.d (iD S), .d (iD A), .d (.int L)] ∧ Sides S A L ∧ R (.d (.int (cntS S A L : Nat)))
theorem at_pair_count {S A : List Int} {L : Int} {R : SV → Prop} {RX : Exn → Prop} (v : Sides S A L) (h : R (.d (.int (cntS S A L : Nat)))) : C_pair_count [.d (iD S), .d (iD A), .d (.int L)] R RX := ⟨S, A, L, rfl, v, h⟩
theorem ad_pair_count : AdOk C_pair_count ts_pair_count N_pair_count 3 := by
  rintro args R RX hl ⟨S, A, L, rfl, v, h⟩
  simp [ts_pair_count, startD, lcD]
  refine at_greedy_sends v ?_
  simp [seqV]
  refine ⟨by rw [grd_len]; have := v.a.len; omega, lcL_of oD Option.isSome oD _ [] (fun x hx k1 k0 a b => ?_) ?_⟩
  · cases x with
    | none => simpa [wipeD, oD, isNoneV] using b rfl
    | some k => simpa [wipeD, oD, isNoneV] using a rfl
  · simpa [cntS] using h
theorem h_pair_count (T : Tx K mg) : Has P w K mg base (LK K) "pair_count" 2 ["sends", "arrivals", "late"] C_pair_count := by
  obtain ⟨_, F_greedy_sends, B_greedy_sends, M_greedy_sends, K_greedy_sends⟩ := h_greedy_sends (P := P) (w := w) (base := base) T
  have m_len : mg "len" = none := T.fr "len" (by decide)
  obtain ⟨fd, FD⟩ := T.d_pair_count
  refine ⟨fd, ?_, FD.bindsN fun _ _ _ _ _ _ us hl => match us, hl with | [_, _, _], _ => rfl, T.g_pair_count, FD.kp⟩
  refine fn_ok (ts := ts_pair_count) FD sc_pair_count (fun cdv A outer s H E hr => ?_) ad_pair_count
  have sc := sc_pair_count
  exact (ds_one (d_ret (dx_len (by rfl) m_len (dx_lc (own := [("send", 3)]) sc.nd (di_seq (fl := ff) false (dx_call (k := 1) F_greedy_sends takes_cx (by exact hr.mono (by decide)) (by rfl) M_greedy_sends K_greedy_sends B_greedy_sends (da_cons (dx_var 0) (da_cons (dx_var 1) (da_cons (dx_var 2) da_nil))))) (blkOk_by (own := [("send", 3)]) (N := N_pair_count) (sc := defScope s_pair_count) (by decide +kernel)) (fun _ _ _ _ _ => (dg_name 3 sc.nd)) (fun _ _ _ _ _ => (dts_one (dt_notNone (dx_var 3)))) (fun _ _ _ _ _ => (dx_n (dx_var 3)))))))
abbrev N__send_mates : List Str := ["sends", "taken", "mates", "send", "at"]
theorem sc__send_mates : FnScope N__send_mates ["sends", "taken"] (defScope s__send_mates) := ⟨rfl, rfl, rfl, by decide +kernel, rfl, by decide +kernel, by decide +kernel⟩
def ts__send_mates : TDs := (sSeq (sSet ff 2 (lcD (iVarD 0) (gN 3) tYesD (eC .none) [3]))
  (sSeq (sFor (iEnumD fs (eVD 1)) (gT 2 (gsCons (gN 4) (gsCons (gN 3) gsNil)))
  (sIf (tNotN (eV 3))
  (sPutI 2 (eN (eV 4)) (eV 3))
  sNil))
  (sRet true (e1 (un1 tupD) (eV 2)))))
def mD (S : List Int) (T : List (Option Nat)) : PyData := .tuple ((List.range S.length).map fun s => oD (mt T s))
def C__send_mates : Ctr := fun args R _ => ∃ (S A : List Int) (L : Int) (T : List (Option Nat)), args = [.d (iD S), .d (.tuple (T.map oD))] ∧ Mat S A L T ∧ S.length ≤ 40 ∧ A.length ≤ 40 ∧ R (.d (mD S T))
theorem at__send_mates {S A : List Int} {L : Int} {T : List (Option Nat)} {R : SV → Prop} {RX : Exn → Prop} (M : Mat S A L T) (h1 : S.length ≤ 40) (h2 : A.length ≤ 40) (h : R (.d (mD S T))) : C__send_mates [.d (iD S), .d (.tuple (T.map oD))] R RX := ⟨S, A, L, T, rfl, M, h1, h2, h⟩
def mtTo (T : List (Option Nat)) (k s : Nat) : Option Nat := (List.range k).find? fun j => T[j]? == some (some s)
theorem mtTo_succ (T : List (Option Nat)) (k s : Nat) : mtTo T (k + 1) s = (mtTo T k s).or (if T[k]? = some (some s) then some k else none) := by
  unfold mtTo
  rw [List.range_succ, List.find?_append]
  congr 1
  by_cases h : T[k]? = some (some s) <;> simp [h]
theorem ad__send_mates : AdOk C__send_mates ts__send_mates N__send_mates 2 := by
  rintro args R RX hl ⟨S, A, L, T, rfl, M, h1, h2, h⟩
  simp [ts__send_mates, startD, lcD, iD, ownSeq]
  refine ⟨by omega, lcL_of .int (fun _ => true) (fun _ => .none) S [] (fun x hx k1 k0 a b => ?_) ?_⟩
  · simpa using a rfl
  rw [filt_true]
  have e0 : [] ++ S.map (fun _ => PyData.none) = (List.range S.length).map fun s => oD (mtTo T 0 s) := by
    apply List.ext_getElem <;> simp [mtTo, oD]
  rw [e0, if_pos (nol_map (fun _ => nolist_oD _) _)]
  refine forL_enum _ (fun k δ => ∃ o1 o2, δ = [some (SV.d (.tuple (S.map .int))), some (SV.d (.tuple (T.map oD))), some (.own ((List.range S.length).map fun s => oD (mtTo T k s))), o1, o2]) ?_ ?_ _ ⟨_, _, rfl⟩
  · rintro k d δ K hd hK ⟨o1, o2, rfl⟩
    rw [List.getElem?_map] at hd
    cases e : T[k]? with
    | none => rw [e] at hd; cases hd
    | some x =>
      rw [e] at hd
      injection hd with hd
      subst hd
      have next : ∀ m' o1 o2, m' = (List.range S.length).map (fun s => oD (mtTo T (k + 1) s)) → K [some (SV.d (.tuple (S.map .int))), some (SV.d (.tuple (T.map oD))), some (.own m'), o1, o2] := fun m' o1 o2 e => hK _ ⟨o1, o2, by rw [e]⟩
      have ml : ((List.range S.length).map fun s => oD (mtTo T k s)).length = S.length := by simp
      cases x with
      | none =>
        have e2 : (List.range S.length).map (fun s => oD (mtTo T k s)) = (List.range S.length).map (fun s => oD (mtTo T (k + 1) s)) := List.map_congr_left fun s _ => by rw [mtTo_succ, if_neg (by rw [e]; simp), Option.or_none]
        generalize (List.range S.length).map (fun s => oD (mtTo T k s)) = m at ml e2
        simp [oD, isNoneV]
        exact next m _ _ e2
      | some s =>
        have sl := (M.pr k s e).1
        have ix : ixN S.length (s : Int) = some s := by
          unfold ixN
          rw [if_pos (by omega), if_pos (by omega)]; simp
        have e2 : ((List.range S.length).map (fun s => oD (mtTo T k s))).set s (.int (k : Nat)) = (List.range S.length).map (fun s => oD (mtTo T (k + 1) s)) := by
          apply List.ext_getElem?
          intro i
          rw [List.getElem?_set, ml, List.getElem?_map, List.getElem?_map]
          by_cases c : s = i
          · subst c
            have z : mtTo T k s = none := by
              unfold mtTo
              rw [List.find?_range_eq_none]
              intro j hj
              by_cases ej : T[j]? = some (some s)
              · have := M.inj k j s e ej; omega
              · simp [ej]
            simp [sl, mtTo_succ, z, e, oD]
          · have : ¬ T[k]? = some (some i) := fun z => by rw [e] at z; simp at z; exact c z
            rw [if_neg c]
            by_cases hi : i < S.length
            · simp [hi, mtTo_succ, this]
            · simp [hi]
        generalize (List.range S.length).map (fun s => oD (mtTo T k s)) = m at ml e2
        simp [oD, isNoneV, ml, ix]
        exact next _ _ _ e2
  · rintro δ ⟨o1, o2, rfl⟩
    simp
    refine ⟨nol_map (fun _ => nolist_oD _) _, ?_⟩
    exact h
theorem h__send_mates (T : Tx K mg) : Has P w K mg base (LK K) "_send_mates" 1 ["sends", "taken"] C__send_mates := by
  have m_tuple : mg "tuple" = none := T.fr "tuple" (by decide)
  have m_enumerate : mg "enumerate" = none := T.fr "enumerate" (by decide)
  obtain ⟨fd, FD⟩ := T.d__send_mates
  refine ⟨fd, ?_, FD.bindsN fun _ _ _ _ _ _ us hl => match us, hl with | [_, _], _ => rfl, T.g__send_mates, FD.kp⟩
  refine fn_ok (ts := ts__send_mates) FD sc__send_mates (fun cdv A outer s H E hr => ?_) ad__send_mates
  have sc := sc__send_mates
  exact (ds_cons (d_setLc (own := [("send", 3)]) 2 sc.nd (di_var 0) (blkOk_by (own := [("send", 3)]) (N := N__send_mates) (sc := defScope s__send_mates) (by decide +kernel)) (fun _ _ _ _ _ => (dg_name 3 sc.nd)) (fun _ _ _ _ _ => dts_nil) (fun _ _ _ _ _ => dx_none) (by exact sw_true rfl rfl rfl (by decide +kernel)))
  (ds_cons (d_for (by exact passes_of rfl) (by rfl) (di_enum (fl := fs) true (by rfl) m_enumerate (dx_varD 1)) (dg_tup (by rfl) (dgs_name 4 sc.nd (dgs_name 3 sc.nd dgs_nil)))
  (ds_one (d_if (dt_notNone (dx_var 3))
  (ds_one (d_putI 2 (dx_n (dx_var 4)) (dx_var 3)))
  ds_nil)))
  (ds_one (d_ret (dx_tupc (by rfl) m_tuple (dx_var 2))))))
abbrev N__reached : List Str := ["rows", "mates", "other_mates", "followers", "at"]
theorem sc__reached : FnScope N__reached ["rows", "mates", "other_mates"] (defScope s__reached) := ⟨rfl, rfl, rfl, by decide +kernel, rfl, by decide +kernel, by decide +kernel⟩
def ts__reached : TDs := (sDef 3 fun M_followers => (sRet true (eCallF 2 1 [2, 0] (defF ["at", "other_mates", "rows", "partner"] (sRet true (e1 (un1 tupD) (lcD (iSeqD fb (eIx (eV 2) (eV 0))) (gN 3) tYesD (eN (eIx (eV 1) (eV 3))) [3])))) C_closure M_followers (aCons (e1 (un1 tupD) (lcD (iRng1D (e1 lenV (eV 0))) (gN 4) (tIsN (eIx (eV 1) (eV 4))) (eN (eV 4)) [4])) (aCons (eV 3) aNil)))))
/-- lists that hold the functions of a walk -/
structure Wk (rows : List (List Nat)) (mxl myl : List (Option Nat)) (nx : Nat) (mx : Nat → Option Nat) (row : Nat → List Nat) (my : Nat → Option Nat) : Prop where
  n40 : nx ≤ 40
  r : rows.length = nx
  m : mxl.length = nx
  rr : ∀ x, x < nx → rows[x]? = some (row x)
  mm : ∀ x, x < nx → mxl[x]? = some (mx x)
  lt : ∀ x, Way nx mx row my x → x < nx
  ln : ∀ x, (row x).length ≤ 40
  cl : ∀ x, Way nx mx row my x → ∀ y ∈ row x, ∃ x', my y = some x' ∧ myl[y]? = some (some x')
def C__reached : Ctr := fun args R _ => ∃ (rows : List (List Nat)) (mxl myl : List (Option Nat)) (nx : Nat) (mx : Nat → Option Nat) (row : Nat → List Nat) (my : Nat → Option Nat), args = [.d (rD rows), .d (.tuple (mxl.map oD)), .d (.tuple (myl.map oD))] ∧ Wk rows mxl myl nx mx row my ∧ R (.d (nD (lst nx (Way nx mx row my))))
theorem at__reached {rows : List (List Nat)} {mxl myl : List (Option Nat)} {nx : Nat} {mx : Nat → Option Nat} {row : Nat → List Nat} {my : Nat → Option Nat} {R : SV → Prop} {RX : Exn → Prop} (W : Wk rows mxl myl nx mx row my) (h : R (.d (nD (lst nx (Way nx mx row my))))) : C__reached [.d (rD rows), .d (.tuple (mxl.map oD)), .d (.tuple (myl.map oD))] R RX := ⟨rows, mxl, myl, nx, mx, row, my, rfl, W, h⟩
theorem ad__reached : AdOk C__reached ts__reached N__reached 3 := by
  rintro args R RX hl ⟨rows, mxl, myl, nx, mx, row, my, rfl, W, h⟩
  have n40 := W.n40
  simp [ts__reached, startD, lcD, rD, ownSeq]
  intro M kf f hM
  refine ⟨by rw [W.r]; omega, by rw [rangeD_len]; rw [W.r]; omega, ?_⟩
  have getM' : ∀ x, x < nx → atI (mxl.map oD) (x : Int) = some (oD (mx x)) := fun x hx => by rw [atI_at, List.getElem?_map, W.mm x hx]; rfl
  refine lcL_range rows.length (fun k => (mx k).isNone) kD (fun k hk k1 k0 a b => ?_) ?_
  · have e := getM' k (by rw [← W.r]; exact hk)
    cases em : mx k with
    | none =>
      have := a (by simp [em])
      simp [em] at e
      simpa [e, wipeD, isNoneV, oD, kD] using this
    | some y =>
      have := b (by simp [em])
      simp [em] at e
      simpa [e, wipeD, isNoneV, oD, kD] using this
  · rw [W.r]
    simp [nol_k]
    refine ⟨⟨kf, f, ⟨rfl, rfl⟩, hM⟩, fun kf f => ?_⟩
    have st : ∀ x, x ∈ (List.range nx).filter (fun k => (mx k).isNone) ↔ x < nx ∧ mx x = none := fun x => by simp
    refine ⟨(List.range nx).filter fun k => (mx k).isNone, _, fun x => (row x).map fun y => (my y).getD 0, nx, Way nx mx row my, rfl, ?_, n40, ⟨fun x hx => .base ((st x).mp hx), W.lt, fun x hx y hy => ?_, fun x hx => by simpa using W.ln x, fun Q h1 h2 x hx => ?_⟩, fun x hx R' hR => ?_, h⟩
    · have := List.length_filter_le (fun k => (mx k).isNone) (List.range nx)
      rw [List.length_range] at this
      omega
    · obtain ⟨z, hz, rfl⟩ := List.mem_map.mp hy
      obtain ⟨x', e, _⟩ := W.cl x hx z hz
      refine .step hx ⟨z, hz, ?_⟩
      rw [e]; rfl
    · induction hx with
      | base f => exact h1 _ ((st _).mpr f)
      | step r s ih =>
        obtain ⟨z, hz, e⟩ := s
        exact h2 _ ih _ (List.mem_map.mpr ⟨z, hz, by rw [e]; rfl⟩)
    · have hx' := W.lt x hx
      have er : atI (rows.map nD) (x : Int) = some (nD (row x)) := by rw [atI_at, List.getElem?_map, W.rr x hx']; rfl
      simp [defF, startD, lcD, er, kD]
      simp only [nD, seqV_tup]
      have := W.ln x
      refine ⟨nol_k _, by simp; omega, lcL_of kD (fun _ => true) (fun y => kD ((my y).getD 0)) (row x) [] (fun y hy k1 k0 a b => ?_) ?_⟩
      · obtain ⟨x', e1, e2⟩ := W.cl x hx y hy
        have g : atI (myl.map oD) (y : Int) = some (oD (some x')) := by rw [atI_at, List.getElem?_map, e2]; rfl
        have := a rfl
        simpa [wipeD, g, e1, oD, kD] using this
      · rw [filt_true]
        refine ⟨?_, ?_⟩
        · exact nol_map (fun _ => nolist_kD _) _
        · simpa [nD, List.map_map, Function.comp_def] using hR
theorem h__reached (T : Tx K mg) (bq : Bq K mg base) : Has P w K mg base (LK K) "_reached" 8 ["rows", "mates", "other_mates"] C__reached := by
  have HF_closure := h_closure (P := P) (w := w) (base := base) T
  have m_tuple : mg "tuple" = none := T.fr "tuple" (by decide)
  have m_range : mg "range" = none := T.fr "range" (by decide)
  have m_len : mg "len" = none := T.fr "len" (by decide)
  obtain ⟨fd, FD⟩ := T.d__reached
  refine ⟨fd, ?_, FD.bindsN fun _ _ _ _ _ _ us hl => match us, hl with | [_, _, _], _ => rfl, T.g__reached, FD.kp⟩
  refine fn_okC (p := ("_reached", none)) (ts := ts__reached) FD sc__reached (fun A outer s H E hr => ?_) ad__reached
  have sc := sc__reached
  exact (ds_def 3 okT okT2 (bq ("_reached", none) (by decide)) rfl tm__reached (tab_u T.tn tm__reached) (NdefX.ndef_free (fr := ["other_mates", "rows"]) (by kernel_rfl)) rfl rfl rfl sc.nd
  (ds_one (d_ret (dx_callF (j := 1) (kc := 6) HF_closure (maker_def (X := cx P w K mg base N__reached "_reached" (defScope s__reached) (He.fAd K ("_reached", none)) (Value.ref (He.codeOf K ("_reached", none))) A outer s H E) (k := 5) (js := [2, 0]) (NdefX.nscope_by (N := ["at", "other_mates", "rows", "partner"]) (ps := ["at"]) (fr := ["other_mates", "rows"]) (by decide +kernel)) (by kernel_rfl) (by rfl) (fun F _ _ _ _ h1 h2 h3 => by cases F; cases h1; cases h2; cases h3; rfl) (fun q cl c' f0 A outer s H E hr => (ds_one (d_ret (dx_tupc (by rfl) m_tuple (dx_lc (own := [("partner", 3)]) (by decide +kernel : (["at", "other_mates", "rows", "partner"] : List Str).Nodup) (di_seq (fl := fb) false (dx_w fb (dx_ix (dx_var 2) (dx_var 0)))) (blkOk_by (own := [("partner", 3)]) (N := (["at", "other_mates", "rows", "partner"] : List Str)) (by kernel_rfl)) (fun _ _ _ _ _ => (dg_name 3 (by decide +kernel : (["at", "other_mates", "rows", "partner"] : List Str).Nodup))) (fun _ _ _ _ _ => dts_nil) (fun _ _ _ _ _ => (dx_n (dx_w fb (dx_ix (dx_var 1) (dx_var 3))))))))))) takes_cx (by exact hr.mono (by decide)) (by rfl) (da_cons (dx_w fb (dx_tupc (by rfl) m_tuple (dx_lc (own := [("at", 4)]) sc.nd (di_range1 false (by rfl) m_range (dx_len (by rfl) m_len (dx_var 0))) (blkOk_by (own := [("at", 4)]) (N := N__reached) (sc := defScope s__reached) (by decide +kernel)) (fun _ _ _ _ _ => (dg_name 4 sc.nd)) (fun _ _ _ _ _ => (dts_one (dt_isNone (dx_w fb (dx_ix (dx_var 1) (dx_var 4)))))) (fun _ _ _ _ _ => (dx_n (dx_var 4)))))) (da_cons (dx_var 3) da_nil))))))
abbrev N_left_out_sends : List Str := ["sends", "arrivals", "late", "taken"]
theorem sc_left_out_sends : FnScope N_left_out_sends ["sends", "arrivals", "late"] (defScope s_left_out_sends) := ⟨rfl, rfl, rfl, by decide +kernel, rfl, by decide +kernel, by decide +kernel⟩
def ts_left_out_sends : TDs := (sSeq (sSet ff 3 (eCall 3 C_greedy_sends (aCons (eV 0) (aCons (eV 1) (aCons (eV 2) aNil)))))
  (sRet true (eCall 3 C__reached (aCons (eCall 3 C_send_rows (aCons (eV 0) (aCons (eV 1) (aCons (eV 2) aNil)))) (aCons (eCall 2 C__send_mates (aCons (eV 0) (aCons (eV 3) aNil))) (aCons (eV 3) aNil))))))
theorem mt_list {S A : List Int} {L : Int} {T : List (Option Nat)} (s : Nat) (h : s < S.length) : ((List.range S.length).map fun s => N50.mt T s)[s]? = some (N50.mt T s) := by simp [h]
theorem mD_eq (S : List Int) (T : List (Option Nat)) : mD S T = .tuple (((List.range S.length).map fun s => N50.mt T s).map oD) := by
  unfold mD; rw [List.map_map]; rfl
theorem wkS {S A : List Int} {L : Int} (v : Sides S A L) : Wk (sRows S A L) ((List.range S.length).map fun s => N50.mt (grd S L 0 A) s) (grd S L 0 A) S.length (N50.mt (grd S L 0 A)) (rowS S A L) (tk (grd S L 0 A)) :=
  have M := grd_mat v.S A L
  ⟨v.s.len, by simp [sRows], by simp, fun x hx => by simp [sRows, rowS, hx], fun x hx => by simp [hx], fun x hx => wayS_lt M hx, fun x => by
    have := List.length_filter_le (fun k => N50.part L (S.getD x 0) (A.getD k 0)) (List.range A.length)
    rw [List.length_range] at this
    have := v.a.len
    unfold rowS sRow
    omega, fun x hx y hy => by
    obtain ⟨s', e⟩ := wayS_full v.S v.A hx y hy
    exact ⟨s', e, tk_some.mp e⟩⟩
theorem wkA {S A : List Int} {L : Int} (v : Sides S A L) : Wk (aRows S A L) (grd S L 0 A) ((List.range S.length).map fun s => N50.mt (grd S L 0 A) s) A.length (tk (grd S L 0 A)) (rowA S A L) (N50.mt (grd S L 0 A)) :=
  have M := grd_mat v.S A L
  ⟨v.a.len, by simp [aRows], M.len, fun x hx => by simp [aRows, rowA, hx], fun x hx => by
      have : x < (grd S L 0 A).length := by rw [M.len]; exact hx
      simp [tk, this], fun x hx => wayA_lt M hx, fun x => by
    have := List.length_filter_le (fun k => N50.part L (S.getD k 0) (A.getD x 0)) (List.range S.length)
    rw [List.length_range] at this
    have := v.s.len
    unfold rowA aRow
    omega, fun x hx y hy => by
    obtain ⟨s', e⟩ := wayA_full v.S v.A hx y hy
    refine ⟨s', e, ?_⟩
    have := ((mem_aRow S L).mp hy).1
    simp [this, e]⟩
noncomputable abbrev looseS (S A : List Int) (L : Int) : List Nat := lst S.length (WayS S A L (grd S L 0 A))
noncomputable abbrev looseA (S A : List Int) (L : Int) : List Nat := lst A.length (WayA S A L (grd S L 0 A))
def C_left_out_sends : Ctr := fun args R _ => ∃ (S A : List Int) (L : Int), args = [.d (iD S), .d (iD A), .d (.int L)] ∧ Sides S A L ∧ R (.d (nD (looseS S A L)))
theorem at_left_out_sends {S A : List Int} {L : Int} {R : SV → Prop} {RX : Exn → Prop} (v : Sides S A L) (h : R (.d (nD (looseS S A L)))) : C_left_out_sends [.d (iD S), .d (iD A), .d (.int L)] R RX := ⟨S, A, L, rfl, v, h⟩
theorem ad_left_out_sends : AdOk C_left_out_sends ts_left_out_sends N_left_out_sends 3 := by
  rintro args R RX hl ⟨S, A, L, rfl, v, h⟩
  simp [ts_left_out_sends, startD]
  refine at_greedy_sends v ?_
  simp
  refine at_send_rows v ?_
  simp
  refine at__send_mates (grd_mat v.S A L) v.s.len v.a.len ?_
  simp
  rw [mD_eq]
  exact at__reached (wkS v) h
theorem h_left_out_sends (T : Tx K mg) (bq : Bq K mg base) : Has P w K mg base (LK K) "left_out_sends" 9 ["sends", "arrivals", "late"] C_left_out_sends := by
  obtain ⟨_, F__reached, B__reached, M__reached, K__reached⟩ := h__reached (P := P) (w := w) (base := base) T bq
  obtain ⟨_, F__send_mates, B__send_mates, M__send_mates, K__send_mates⟩ := h__send_mates (P := P) (w := w) (base := base) T
  obtain ⟨_, F_send_rows, B_send_rows, M_send_rows, K_send_rows⟩ := h_send_rows (P := P) (w := w) (base := base) T
  obtain ⟨_, F_greedy_sends, B_greedy_sends, M_greedy_sends, K_greedy_sends⟩ := h_greedy_sends (P := P) (w := w) (base := base) T
  obtain ⟨fd, FD⟩ := T.d_left_out_sends
  refine ⟨fd, ?_, FD.bindsN fun _ _ _ _ _ _ us hl => match us, hl with | [_, _, _], _ => rfl, T.g_left_out_sends, FD.kp⟩
  refine fn_ok (ts := ts_left_out_sends) FD sc_left_out_sends (fun cdv A outer s H E hr => ?_) ad_left_out_sends
  have sc := sc_left_out_sends
  exact (ds_cons (d_set 3 sc.nd (dx_call (k := 1) F_greedy_sends takes_cx (by exact hr.mono (by decide)) (by rfl) M_greedy_sends K_greedy_sends B_greedy_sends (da_cons (dx_var 0) (da_cons (dx_var 1) (da_cons (dx_var 2) da_nil)))))
  (ds_one (d_ret (dx_call (k := 8) F__reached takes_cx (by exact hr.mono (by decide)) (by rfl) M__reached K__reached B__reached (da_cons (dx_w fb (dx_call (k := 1) F_send_rows takes_cx (by exact hr.mono (by decide)) (by rfl) M_send_rows K_send_rows B_send_rows (da_cons (dx_var 0) (da_cons (dx_var 1) (da_cons (dx_var 2) da_nil))))) (da_cons (dx_w fb (dx_call (k := 1) F__send_mates takes_cx (by exact hr.mono (by decide)) (by rfl) M__send_mates K__send_mates B__send_mates (da_cons (dx_var 0) (da_cons (dx_var 3) da_nil)))) (da_cons (dx_var 3) da_nil)))))))
abbrev N_left_out_arrivals : List Str := ["sends", "arrivals", "late", "taken"]
theorem sc_left_out_arrivals : FnScope N_left_out_arrivals ["sends", "arrivals", "late"] (defScope s_left_out_arrivals) := ⟨rfl, rfl, rfl, by decide +kernel, rfl, by decide +kernel, by decide +kernel⟩
def ts_left_out_arrivals : TDs := (sSeq (sSet ff 3 (eCall 3 C_greedy_sends (aCons (eV 0) (aCons (eV 1) (aCons (eV 2) aNil)))))
  (sRet true (eCall 3 C__reached (aCons (eCall 3 C_arrival_rows (aCons (eV 0) (aCons (eV 1) (aCons (eV 2) aNil)))) (aCons (eV 3) (aCons (eCall 2 C__send_mates (aCons (eV 0) (aCons (eV 3) aNil))) aNil))))))
def C_left_out_arrivals : Ctr := fun args R _ => ∃ (S A : List Int) (L : Int), args = [.d (iD S), .d (iD A), .d (.int L)] ∧ Sides S A L ∧ R (.d (nD (looseA S A L)))
theorem at_left_out_arrivals {S A : List Int} {L : Int} {R : SV → Prop} {RX : Exn → Prop} (v : Sides S A L) (h : R (.d (nD (looseA S A L)))) : C_left_out_arrivals [.d (iD S), .d (iD A), .d (.int L)] R RX := ⟨S, A, L, rfl, v, h⟩
theorem ad_left_out_arrivals : AdOk C_left_out_arrivals ts_left_out_arrivals N_left_out_arrivals 3 := by
  rintro args R RX hl ⟨S, A, L, rfl, v, h⟩
  simp [ts_left_out_arrivals, startD]
  refine at_greedy_sends v ?_
  simp
  refine at_arrival_rows v ?_
  simp
  refine at__send_mates (grd_mat v.S A L) v.s.len v.a.len ?_
  simp
  rw [mD_eq]
  exact at__reached (wkA v) h
theorem h_left_out_arrivals (T : Tx K mg) (bq : Bq K mg base) : Has P w K mg base (LK K) "left_out_arrivals" 9 ["sends", "arrivals", "late"] C_left_out_arrivals := by
  obtain ⟨_, F__reached, B__reached, M__reached, K__reached⟩ := h__reached (P := P) (w := w) (base := base) T bq
  obtain ⟨_, F__send_mates, B__send_mates, M__send_mates, K__send_mates⟩ := h__send_mates (P := P) (w := w) (base := base) T
  obtain ⟨_, F_arrival_rows, B_arrival_rows, M_arrival_rows, K_arrival_rows⟩ := h_arrival_rows (P := P) (w := w) (base := base) T
  obtain ⟨_, F_greedy_sends, B_greedy_sends, M_greedy_sends, K_greedy_sends⟩ := h_greedy_sends (P := P) (w := w) (base := base) T
  obtain ⟨fd, FD⟩ := T.d_left_out_arrivals
  refine ⟨fd, ?_, FD.bindsN fun _ _ _ _ _ _ us hl => match us, hl with | [_, _, _], _ => rfl, T.g_left_out_arrivals, FD.kp⟩
  refine fn_ok (ts := ts_left_out_arrivals) FD sc_left_out_arrivals (fun cdv A outer s H E hr => ?_) ad_left_out_arrivals
  have sc := sc_left_out_arrivals
  exact (ds_cons (d_set 3 sc.nd (dx_call (k := 1) F_greedy_sends takes_cx (by exact hr.mono (by decide)) (by rfl) M_greedy_sends K_greedy_sends B_greedy_sends (da_cons (dx_var 0) (da_cons (dx_var 1) (da_cons (dx_var 2) da_nil)))))
  (ds_one (d_ret (dx_call (k := 8) F__reached takes_cx (by exact hr.mono (by decide)) (by rfl) M__reached K__reached B__reached (da_cons (dx_w fb (dx_call (k := 1) F_arrival_rows takes_cx (by exact hr.mono (by decide)) (by rfl) M_arrival_rows K_arrival_rows B_arrival_rows (da_cons (dx_var 0) (da_cons (dx_var 1) (da_cons (dx_var 2) da_nil))))) (da_cons (dx_var 3) (da_cons (dx_w fb (dx_call (k := 1) F__send_mates takes_cx (by exact hr.mono (by decide)) (by rfl) M__send_mates K__send_mates B__send_mates (da_cons (dx_var 0) (da_cons (dx_var 3) da_nil)))) da_nil)))))))
abbrev N_assign : List Str := ["sends", "arrivals", "late", "taken", "rows", "at", "send"]
theorem sc_assign : FnScope N_assign ["sends", "arrivals", "late"] (defScope s_assign) := ⟨rfl, rfl, rfl, by decide +kernel, rfl, by decide +kernel, by decide +kernel⟩
def ts_assign : TDs := (sSeq (sSet ff 3 (eCall 3 C_greedy_sends (aCons (eV 0) (aCons (eV 1) (aCons (eV 2) aNil)))))
  (sSeq (sSet ff 4 (eCall 3 C_arrival_rows (aCons (eV 0) (aCons (eV 1) (aCons (eV 2) aNil)))))
  (sRet true (e1 (un1 tupD) (lcD (iEnumD fs (eVD 3)) (gT 2 (gsCons (gN 5) (gsCons (gN 6) gsNil))) tYesD (eIf (tIsN (eV 6)) (eN (eIx (eIx (eV 4) (eV 5)) (eNeg (eC (.int 1))))) (eN (eV 6))) [5, 6])))))
/-- each arrival's send: the one taken, else the last partner -/
def asg (S A : List Int) (L : Int) : List Nat := (List.range A.length).map fun k => (tk (grd S L 0 A) k).getD ((rowA S A L k).getLastD 0)
def C_assign : Ctr := fun args R _ => ∃ (S A : List Int) (L : Int), args = [.d (iD S), .d (iD A), .d (.int L)] ∧ Sides S A L ∧ orph S A L = none ∧ R (.d (nD (asg S A L)))
theorem at_assign {S A : List Int} {L : Int} {R : SV → Prop} {RX : Exn → Prop} (v : Sides S A L) (o : orph S A L = none) (h : R (.d (nD (asg S A L)))) : C_assign [.d (iD S), .d (iD A), .d (.int L)] R RX := ⟨S, A, L, rfl, v, o, h⟩
theorem ix_last (l : List Nat) (h : l ≠ []) : atI (l.map kD) (-1) = some (kD (l.getLastD 0)) := by
  unfold atI ixN
  have : l.length ≠ 0 := fun z => h (List.length_eq_zero_iff.mp z)
  rw [if_neg (by omega), if_pos (by simp; omega)]
  have e : (-1 + ((l.map kD).length : Int)).toNat = l.length - 1 := by simp; omega
  simp only [e, List.getElem?_map, Option.bind_some]
  rw [← List.getLast?_eq_getElem?]
  cases l with
  | nil => exact absurd rfl h
  | cons a r =>
    rw [List.getLastD_eq_getLast?]
    cases e2 : (a :: r).getLast? with
    | none => simp at e2
    | some z => rfl
theorem ad_assign : AdOk C_assign ts_assign N_assign 3 := by
  rintro args R RX hl ⟨S, A, L, rfl, v, o, h⟩
  simp [ts_assign, startD]
  refine at_greedy_sends v ?_
  simp
  refine at_arrival_rows v ?_
  simp [lcD, ownSeq]
  have ln : (grd S L 0 A).length = A.length := grd_len ..
  have := v.a.len
  refine ⟨by rw [DL.pairs_len]; simp [ln]; omega, lcL_enum oD (grd S L 0 A) (fun _ => true) (fun k => kD ((tk (grd S L 0 A) k).getD ((rowA S A L k).getLastD 0))) (fun k x hk k1 k0 a b => ?_) ?_⟩
  · have hkl : k < A.length := by rw [← ln]; exact lt_of_get hk
    have := a rfl
    cases x with
    | some s =>
      rw [tk_some.mpr hk] at this
      simpa [wipeD, oD, isNoneV, kD] using this
    | none =>
      have e : tk (grd S L 0 A) k = none := by unfold tk; rw [hk]; rfl
      rw [e] at this
      have er : atI ((aRows S A L).map nD) (k : Int) = some (nD (rowA S A L k)) := by rw [atI_at, List.getElem?_map]; simp [aRows, rowA, hkl]
      have hne : rowA S A L k ≠ [] := fun z => by
        unfold orph at o
        rw [List.find?_range_eq_none] at o
        have := o k hkl
        simp [z] at this
      have el := ix_last _ hne
      simp [wipeD, oD, isNoneV, rD, er]
      simp only [nD, ixV_tup, el]
      simpa using this
  · rw [filt_true, ln]
    exact ⟨nol_map (fun _ => nolist_kD _) _, by simpa [asg, nD, List.map_map, Function.comp_def] using h⟩
theorem h_assign (T : Tx K mg) : Has P w K mg base (LK K) "assign" 2 ["sends", "arrivals", "late"] C_assign := by
  obtain ⟨_, F_arrival_rows, B_arrival_rows, M_arrival_rows, K_arrival_rows⟩ := h_arrival_rows (P := P) (w := w) (base := base) T
  obtain ⟨_, F_greedy_sends, B_greedy_sends, M_greedy_sends, K_greedy_sends⟩ := h_greedy_sends (P := P) (w := w) (base := base) T
  have m_enumerate : mg "enumerate" = none := T.fr "enumerate" (by decide)
  have m_tuple : mg "tuple" = none := T.fr "tuple" (by decide)
  obtain ⟨fd, FD⟩ := T.d_assign
  refine ⟨fd, ?_, FD.bindsN fun _ _ _ _ _ _ us hl => match us, hl with | [_, _, _], _ => rfl, T.g_assign, FD.kp⟩
  refine fn_ok (ts := ts_assign) FD sc_assign (fun cdv A outer s H E hr => ?_) ad_assign
  have sc := sc_assign
  exact (ds_cons (d_set 3 sc.nd (dx_call (k := 1) F_greedy_sends takes_cx (by exact hr.mono (by decide)) (by rfl) M_greedy_sends K_greedy_sends B_greedy_sends (da_cons (dx_var 0) (da_cons (dx_var 1) (da_cons (dx_var 2) da_nil)))))
  (ds_cons (d_set 4 sc.nd (dx_call (k := 1) F_arrival_rows takes_cx (by exact hr.mono (by decide)) (by rfl) M_arrival_rows K_arrival_rows B_arrival_rows (da_cons (dx_var 0) (da_cons (dx_var 1) (da_cons (dx_var 2) da_nil)))))
  (ds_one (d_ret (dx_tupc (by rfl) m_tuple (dx_lc (own := [("at", 5), ("send", 6)]) sc.nd (di_enum (fl := fs) false (by rfl) m_enumerate (dx_varD 3)) (blkOk_by (own := [("at", 5), ("send", 6)]) (N := N_assign) (sc := defScope s_assign) (by decide +kernel)) (fun _ _ _ _ _ => (dg_tup (by rfl) (dgs_name 5 sc.nd (dgs_name 6 sc.nd dgs_nil)))) (fun _ _ _ _ _ => dts_nil) (fun _ _ _ _ _ => (dx_if (dt_isNone (dx_var 6)) (dx_n (dx_w fb (dx_ix (dx_w fb (dx_ix (dx_var 4) (dx_var 5))) (dx_neg dx_int)))) (dx_n (dx_var 6))))))))))
abbrev N_is_assignment : List Str := ["sends", "arrivals", "late", "indexes", "index", "arrival"]
theorem sc_is_assignment : FnScope N_is_assignment ["sends", "arrivals", "late", "indexes"] (defScope s_is_assignment) := ⟨rfl, rfl, rfl, by decide +kernel, rfl, by decide +kernel, by decide +kernel⟩
def ts_is_assignment : TDs := (sSeq (sIf (tOrD (tNotD (tOf (eIsi isTupS (eV 3)))) (tB2 (opD neD) (e1 lenV (eV 3)) (e1 lenV (eV 1))))
  (sRet true (eC (.bool false)))
  sNil)
  (sSeq (sFor (iZipD (eVD 3) (eVD 1)) (gT 2 (gsCons (gN 4) (gsCons (gN 5) gsNil)))
  (sSeq (sIf (tNotD (tOf (eCall 3 C_is_int_in (aCons (eV 4) (aCons (eC (.int 0)) (aCons (eB (opD subD) (e1 lenV (eV 0)) (eC (.int 1))) aNil))))))
  (sRet true (eC (.bool false)))
  sNil)
  (sIf (tNotD (tChainD (fun i j => decide (i ≤ j)) (fun i j => decide (i ≤ j)) (eIx (eV 0) (eV 4)) (eV 5) (eB addV (eIx (eV 0) (eV 4)) (eV 2))))
  (sRet true (eC (.bool false)))
  sNil)))
  (sRet true (eC (.bool true)))))
def asgOk (row : List Nat) (x : PyData) : Bool := match x with
  | .int i => decide (0 ≤ i) && row.contains i.toNat
  | _ => false
/-- odd told data: each entry a partner of its arrival -/
def isAsg (S A : List Int) (L : Int) (x : PyData) : Bool := match x with
  | .tuple ds => decide (ds.length = A.length) && (List.range A.length).all fun k => asgOk (rowA S A L k) (ds.getD k .none)
  | _ => false
def C_is_assignment : Ctr := fun args R _ => ∃ (S A : List Int) (L : Int) (x : PyData), args = [.d (iD S), .d (iD A), .d (.int L), .d x] ∧ Sides S A L ∧ nolist x = true ∧ R (.d (.bool (isAsg S A L x)))
theorem at_is_assignment {S A : List Int} {L : Int} {x : PyData} {R : SV → Prop} {RX : Exn → Prop} (v : Sides S A L) (hx : nolist x = true) (h : R (.d (.bool (isAsg S A L x)))) : C_is_assignment [.d (iD S), .d (iD A), .d (.int L), .d x] R RX := ⟨S, A, L, x, rfl, v, hx, h⟩
theorem nol_get {ds : List PyData} (h : nolistA ds = true) {k : Nat} {d : PyData} (e : ds[k]? = some d) : nolist d = true := nolA_mem h d (List.mem_of_getElem? e)
theorem all_false {n : Nat} {f : Nat → Bool} {k : Nat} (hk : k < n) (h : f k = false) : (List.range n).all f = false := by
  rw [List.all_eq_false]
  exact ⟨k, by simp [hk], by simp [h]⟩
theorem ad_is_assignment : AdOk C_is_assignment ts_is_assignment N_is_assignment 4 := by
  rintro args R RX hl ⟨S, A, L, x, rfl, v, hx, h⟩
  have ok := okD_nol hx
  cases x with
  | tuple ds =>
    by_cases hlen : ds.length = A.length
    · simp [ts_is_assignment, startD, iD, hlen]
      refine forL_list _ (fun k δ => ∃ o1 o2, δ = [some (.d (.tuple (S.map .int))), some (.d (.tuple (A.map .int))), some (.d (.int L)), some (.d (.tuple ds)), o1, o2] ∧ ∀ i, i < k → asgOk (rowA S A L i) (ds.getD i .none) = true) ?_ ?_ _ ⟨none, none, rfl, fun i hi => by omega⟩
      · rintro k d δ K hd hK ⟨o1, o2, rfl, hb⟩
        have hk : k < A.length := by
          have := lt_of_get hd
          rw [zip_len] at this
          simp at this
          omega
        have e1 : ds[k]? = some ds[k] := by simp
        have e2 : (A.map PyData.int)[k]? = some (.int (A.getD k 0)) := by simp [hk]
        have := DL.zip_get e1 e2
        rw [hd] at this
        injection this with this
        subst this
        have eg : ds.getD k .none = ds[k] := by simp [hlen, hk]
        have nk := nol_get (by simpa using hx) e1
        have okk := okD_nol nk
        rw [← eg] at nk okk ⊢
        have fin : asgOk (rowA S A L k) (ds.getD k .none) = false → R (.d (.bool false)) := fun hf => by
          have : isAsg S A L (.tuple ds) = false := by
            have := all_false (f := fun k => asgOk (rowA S A L k) (ds.getD k .none)) hk hf
            simp only [isAsg, this, Bool.and_false]
          rwa [this] at h
        have nxt : asgOk (rowA S A L k) (ds.getD k .none) = true → K [some (.d (.tuple (S.map .int))), some (.d (.tuple (A.map .int))), some (.d (.int L)), some (.d (.tuple ds)), some (.d (ds.getD k .none)), some (.d (.int (A.getD k 0)))] := fun ht => hK _ ⟨_, _, rfl, fun i hi => by
          rcases Nat.eq_or_lt_of_le (Nat.le_of_lt_succ hi) with g | g
          · rw [g]; exact ht
          · exact hb i g⟩
        generalize ds.getD k .none = z at nk okk fin nxt ⊢
        generalize ha : A.getD k 0 = a at fin nxt ⊢
        simp [okk]
        cases z with
        | int i =>
          by_cases c : 0 ≤ i ∧ i ≤ (S.length : Int) - 1
          · have hi : i.toNat < S.length := by omega
            have g := getI hi
            rw [show ((i.toNat : Nat) : Int) = i by omega] at g
            have mem : (rowA S A L k).contains i.toNat = N50.part L (S.getD i.toNat 0) a := by
              rw [Bool.eq_iff_iff]
              simp [rowA, mem_aRow, hi, N50.part, ← ha]
            simp only [asgOk, mem, c.1, decide_true, Bool.true_and] at fin nxt
            generalize S.getD i.toNat 0 = y at g fin nxt
            simp [inRD, c.1, c.2, g]
            exact part_cases nxt fin
          · have e : inRD (.int i) 0 ((S.length : Int) - 1) = false := by
              simp only [inRD]
              rcases Int.lt_or_le i 0 with z | z
              · simp; omega
              · simp; omega
            simp [e]
            refine fin ?_
            simp [asgOk]
            intro h0
            simp [rowA, mem_aRow]
            omega
        | _ => first
          | (simp [nolist] at nk; done)
          | (simp [inRD]; exact fin rfl)
      · rintro δ ⟨o1, o2, rfl, hb⟩
        have zl : (zipD ds (A.map .int)).length = A.length := by rw [zip_len]; simp [hlen]
        rw [zl] at hb
        have : isAsg S A L (.tuple ds) = true := by
          unfold isAsg
          rw [Bool.and_eq_true]
          refine ⟨by simp [hlen], ?_⟩
          rw [List.all_eq_true]
          exact fun k hk => hb k (List.mem_range.mp hk)
        rw [this] at h
        simpa using h
    · have : isAsg S A L (.tuple ds) = false := by simp [isAsg, hlen]
      rw [this] at h
      have e : ¬ ((ds.length : Int) = A.length) := by omega
      simpa [ts_is_assignment, startD, iD, e] using h
  | _ => first
    | (simp [nolist] at hx; done)
    | (simp [ts_is_assignment, startD, isTupD, isAsg] at h ⊢; exact h)
theorem h_is_assignment (T : Tx K mg) : Has P w K mg base (LK K) "is_assignment" 3 ["sends", "arrivals", "late", "indexes"] C_is_assignment := by
  obtain ⟨_, F_is_int_in, B_is_int_in, M_is_int_in, K_is_int_in⟩ := h_is_int_in (P := P) (w := w) (base := base) T
  have m_zip : mg "zip" = none := T.fr "zip" (by decide)
  have m_len : mg "len" = none := T.fr "len" (by decide)
  have m_tuple : mg "tuple" = none := T.fr "tuple" (by decide)
  have m_isinstance : mg "isinstance" = none := T.fr "isinstance" (by decide)
  obtain ⟨fd, FD⟩ := T.d_is_assignment
  refine ⟨fd, ?_, FD.bindsN fun _ _ _ _ _ _ us hl => match us, hl with | [_, _, _, _], _ => rfl, T.g_is_assignment, FD.kp⟩
  refine fn_ok (ts := ts_is_assignment) FD sc_is_assignment (fun cdv A outer s H E hr => ?_) ad_is_assignment
  have sc := sc_is_assignment
  exact (ds_cons (d_if (dt_w (dw_or (dt_not (dt_of (dx_isi kit_tup (by rfl) m_tuple (by decide +kernel) (by rfl) m_isinstance (by decide +kernel) (dx_var 3)))) (dw_or1 (dt_ne (by exact hr.units) (dx_len (by rfl) m_len (dx_var 3)) (dx_len (by rfl) m_len (dx_var 1))))))
  (ds_one (d_ret dx_bool))
  ds_nil)
  (ds_cons (d_for (by exact passes_of rfl) (by rfl) (di_zip (fl := fs) (fa := fs) true (by rfl) m_zip (dx_varD 3) (dx_varD 1)) (dg_tup (by rfl) (dgs_name 4 sc.nd (dgs_name 5 sc.nd dgs_nil)))
  (ds_cons (d_if (dt_not (dt_of (dx_call (k := 2) F_is_int_in takes_cx (by exact hr.mono (by decide)) (by rfl) M_is_int_in K_is_int_in B_is_int_in (da_cons (dx_var 4) (da_cons (dx_w fb dx_int) (da_cons (dx_w fb (dx_sub (dx_len (by rfl) m_len (dx_var 0)) dx_int)) da_nil))))))
  (ds_one (d_ret dx_bool))
  ds_nil)
  (ds_one (d_if (dt_not (dt_chain op_le op_le (dx_w fb (dx_ix (dx_var 0) (dx_var 4))) (dx_var 5) (dx_add (dx_w fb (dx_ix (dx_var 0) (dx_var 4))) (dx_var 2))))
  (ds_one (d_ret dx_bool))
  ds_nil))))
  (ds_one (d_ret dx_bool))))
abbrev N_matching : List Str := ["sends", "arrivals", "late", "taken", "at", "send"]
theorem sc_matching : FnScope N_matching ["sends", "arrivals", "late"] (defScope s_matching) := ⟨rfl, rfl, rfl, by decide +kernel, rfl, by decide +kernel, by decide +kernel⟩
def ts_matching : TDs := (sSeq (sExpr (eCall 3 C_check_sides (aCons (eV 0) (aCons (eV 1) (aCons (eV 2) aNil)))))
  (sSeq (sSet ff 3 (eCall 3 C_greedy_sends (aCons (eV 0) (aCons (eV 1) (aCons (eV 2) aNil)))))
  (sRet true (e1 (un1 tupD) (lcD (iEnumD fs (eVD 3)) (gT 2 (gsCons (gN 4) (gsCons (gN 5) gsNil))) (tNotN (eV 5)) (eTup (aCons (eN (eV 5)) (aCons (eN (eV 4)) aNil))) [4, 5])))))
def prs (S A : List Int) (L : Int) : PyData := .tuple (((List.range A.length).filter fun k => (tk (grd S L 0 A) k).isSome).map fun k => .tuple [kD ((tk (grd S L 0 A) k).getD 0), kD k])
def C_matching : Ctr := fun args R _ => ∃ (S A : List Int) (L : Int), args = [.d (iD S), .d (iD A), .d (.int L)] ∧ Sides S A L ∧ R (.d (prs S A L))
theorem at_matching {S A : List Int} {L : Int} {R : SV → Prop} {RX : Exn → Prop} (v : Sides S A L) (h : R (.d (prs S A L))) : C_matching [.d (iD S), .d (iD A), .d (.int L)] R RX := ⟨S, A, L, rfl, v, h⟩
theorem ad_matching : AdOk C_matching ts_matching N_matching 3 := by
  rintro args R RX hl ⟨S, A, L, rfl, v, h⟩
  simp [ts_matching, startD]
  refine at_check_sides v ?_
  refine at_greedy_sends v ?_
  simp [lcD, ownSeq]
  have ln : (grd S L 0 A).length = A.length := grd_len ..
  have := v.a.len
  refine ⟨by rw [DL.pairs_len]; simp [ln]; omega, lcL_enum oD (grd S L 0 A) (fun k => (tk (grd S L 0 A) k).isSome) (fun k => .tuple [kD ((tk (grd S L 0 A) k).getD 0), kD k]) (fun k x hk k1 k0 a b => ?_) ?_⟩
  · cases x with
    | some s =>
      have e := tk_some.mpr hk
      rw [e] at a
      have := a rfl
      simpa [wipeD, oD, isNoneV, kD] using this
    | none =>
      have e : tk (grd S L 0 A) k = none := by unfold tk; rw [hk]; rfl
      rw [e] at b
      have := b rfl
      simpa [wipeD, oD, isNoneV, kD] using this
  · rw [ln]
    exact ⟨nol_map (fun _ => by simp) _, by simpa [prs] using h⟩
theorem h_matching (T : Tx K mg) : Has P w K mg base (LK K) "matching" 5 ["sends", "arrivals", "late"] C_matching := by
  obtain ⟨_, F_greedy_sends, B_greedy_sends, M_greedy_sends, K_greedy_sends⟩ := h_greedy_sends (P := P) (w := w) (base := base) T
  obtain ⟨_, F_check_sides, B_check_sides, M_check_sides, K_check_sides⟩ := h_check_sides (P := P) (w := w) (base := base) T
  have m_enumerate : mg "enumerate" = none := T.fr "enumerate" (by decide)
  have m_tuple : mg "tuple" = none := T.fr "tuple" (by decide)
  obtain ⟨fd, FD⟩ := T.d_matching
  refine ⟨fd, ?_, FD.bindsN fun _ _ _ _ _ _ us hl => match us, hl with | [_, _, _], _ => rfl, T.g_matching, FD.kp⟩
  refine fn_ok (ts := ts_matching) FD sc_matching (fun cdv A outer s H E hr => ?_) ad_matching
  have sc := sc_matching
  exact (ds_cons (d_expr (dx_call (k := 4) F_check_sides takes_cx (by exact hr.mono (by decide)) (by rfl) M_check_sides K_check_sides B_check_sides (da_cons (dx_var 0) (da_cons (dx_var 1) (da_cons (dx_var 2) da_nil)))))
  (ds_cons (d_set 3 sc.nd (dx_call (k := 1) F_greedy_sends takes_cx (by exact hr.mono (by decide)) (by rfl) M_greedy_sends K_greedy_sends B_greedy_sends (da_cons (dx_var 0) (da_cons (dx_var 1) (da_cons (dx_var 2) da_nil)))))
  (ds_one (d_ret (dx_tupc (by rfl) m_tuple (dx_lc (own := [("at", 4), ("send", 5)]) sc.nd (di_enum (fl := fs) false (by rfl) m_enumerate (dx_varD 3)) (blkOk_by (own := [("at", 4), ("send", 5)]) (N := N_matching) (sc := defScope s_matching) (by decide +kernel)) (fun _ _ _ _ _ => (dg_tup (by rfl) (dgs_name 4 sc.nd (dgs_name 5 sc.nd dgs_nil)))) (fun _ _ _ _ _ => (dts_one (dt_notNone (dx_var 5)))) (fun _ _ _ _ _ => (dx_tup (da_cons (dx_n (dx_var 5)) (da_cons (dx_n (dx_var 4)) da_nil))))))))))
abbrev N_fewest_lost : List Str := ["sends", "arrivals", "late"]
theorem sc_fewest_lost : FnScope N_fewest_lost ["sends", "arrivals", "late"] (defScope s_fewest_lost) := ⟨rfl, rfl, rfl, by decide +kernel, rfl, by decide +kernel, by decide +kernel⟩
def ts_fewest_lost : TDs := (sSeq (sExpr (eCall 3 C_check_sides (aCons (eV 0) (aCons (eV 1) (aCons (eV 2) aNil)))))
  (sRet true (eB (opD subD) (e1 lenV (eV 0)) (eCall 3 C_pair_count (aCons (eV 0) (aCons (eV 1) (aCons (eV 2) aNil)))))))
def C_fewest_lost : Ctr := fun args R _ => ∃ (S A : List Int) (L : Int), args = [.d (iD S), .d (iD A), .d (.int L)] ∧ Sides S A L ∧ R (.d (.int ((S.length : Int) - (cntS S A L : Nat))))
theorem at_fewest_lost {S A : List Int} {L : Int} {R : SV → Prop} {RX : Exn → Prop} (v : Sides S A L) (h : R (.d (.int ((S.length : Int) - (cntS S A L : Nat))))) : C_fewest_lost [.d (iD S), .d (iD A), .d (.int L)] R RX := ⟨S, A, L, rfl, v, h⟩
theorem ad_fewest_lost : AdOk C_fewest_lost ts_fewest_lost N_fewest_lost 3 := by
  rintro args R RX hl ⟨S, A, L, rfl, v, h⟩
  simp [ts_fewest_lost, startD]
  refine at_check_sides v ?_
  simp [iD]
  refine at_pair_count v ?_
  simpa using h
theorem h_fewest_lost (T : Tx K mg) : Has P w K mg base (LK K) "fewest_lost" 5 ["sends", "arrivals", "late"] C_fewest_lost := by
  obtain ⟨_, F_pair_count, B_pair_count, M_pair_count, K_pair_count⟩ := h_pair_count (P := P) (w := w) (base := base) T
  obtain ⟨_, F_check_sides, B_check_sides, M_check_sides, K_check_sides⟩ := h_check_sides (P := P) (w := w) (base := base) T
  have m_len : mg "len" = none := T.fr "len" (by decide)
  obtain ⟨fd, FD⟩ := T.d_fewest_lost
  refine ⟨fd, ?_, FD.bindsN fun _ _ _ _ _ _ us hl => match us, hl with | [_, _, _], _ => rfl, T.g_fewest_lost, FD.kp⟩
  refine fn_ok (ts := ts_fewest_lost) FD sc_fewest_lost (fun cdv A outer s H E hr => ?_) ad_fewest_lost
  have sc := sc_fewest_lost
  exact (ds_cons (d_expr (dx_call (k := 4) F_check_sides takes_cx (by exact hr.mono (by decide)) (by rfl) M_check_sides K_check_sides B_check_sides (da_cons (dx_var 0) (da_cons (dx_var 1) (da_cons (dx_var 2) da_nil)))))
  (ds_one (d_ret (dx_sub (dx_len (by rfl) m_len (dx_var 0)) (dx_call (k := 2) F_pair_count takes_cx (by exact hr.mono (by decide)) (by rfl) M_pair_count K_pair_count B_pair_count (da_cons (dx_var 0) (da_cons (dx_var 1) (da_cons (dx_var 2) da_nil))))))))
abbrev N_fewest_extra : List Str := ["sends", "arrivals", "late"]
theorem sc_fewest_extra : FnScope N_fewest_extra ["sends", "arrivals", "late"] (defScope s_fewest_extra) := ⟨rfl, rfl, rfl, by decide +kernel, rfl, by decide +kernel, by decide +kernel⟩
def ts_fewest_extra : TDs := (sSeq (sExpr (eCall 3 C_check_sides (aCons (eV 0) (aCons (eV 1) (aCons (eV 2) aNil)))))
  (sRet true (eB (opD subD) (e1 lenV (eV 1)) (eCall 3 C_pair_count (aCons (eV 0) (aCons (eV 1) (aCons (eV 2) aNil)))))))
def C_fewest_extra : Ctr := fun args R _ => ∃ (S A : List Int) (L : Int), args = [.d (iD S), .d (iD A), .d (.int L)] ∧ Sides S A L ∧ R (.d (.int ((A.length : Int) - (cntS S A L : Nat))))
theorem at_fewest_extra {S A : List Int} {L : Int} {R : SV → Prop} {RX : Exn → Prop} (v : Sides S A L) (h : R (.d (.int ((A.length : Int) - (cntS S A L : Nat))))) : C_fewest_extra [.d (iD S), .d (iD A), .d (.int L)] R RX := ⟨S, A, L, rfl, v, h⟩
theorem ad_fewest_extra : AdOk C_fewest_extra ts_fewest_extra N_fewest_extra 3 := by
  rintro args R RX hl ⟨S, A, L, rfl, v, h⟩
  simp [ts_fewest_extra, startD]
  refine at_check_sides v ?_
  simp [iD]
  refine at_pair_count v ?_
  simpa using h
theorem h_fewest_extra (T : Tx K mg) : Has P w K mg base (LK K) "fewest_extra" 5 ["sends", "arrivals", "late"] C_fewest_extra := by
  obtain ⟨_, F_pair_count, B_pair_count, M_pair_count, K_pair_count⟩ := h_pair_count (P := P) (w := w) (base := base) T
  obtain ⟨_, F_check_sides, B_check_sides, M_check_sides, K_check_sides⟩ := h_check_sides (P := P) (w := w) (base := base) T
  have m_len : mg "len" = none := T.fr "len" (by decide)
  obtain ⟨fd, FD⟩ := T.d_fewest_extra
  refine ⟨fd, ?_, FD.bindsN fun _ _ _ _ _ _ us hl => match us, hl with | [_, _, _], _ => rfl, T.g_fewest_extra, FD.kp⟩
  refine fn_ok (ts := ts_fewest_extra) FD sc_fewest_extra (fun cdv A outer s H E hr => ?_) ad_fewest_extra
  have sc := sc_fewest_extra
  exact (ds_cons (d_expr (dx_call (k := 4) F_check_sides takes_cx (by exact hr.mono (by decide)) (by rfl) M_check_sides K_check_sides B_check_sides (da_cons (dx_var 0) (da_cons (dx_var 1) (da_cons (dx_var 2) da_nil)))))
  (ds_one (d_ret (dx_sub (dx_len (by rfl) m_len (dx_var 1)) (dx_call (k := 2) F_pair_count takes_cx (by exact hr.mono (by decide)) (by rfl) M_pair_count K_pair_count B_pair_count (da_cons (dx_var 0) (da_cons (dx_var 1) (da_cons (dx_var 2) da_nil))))))))
abbrev N_loose_sends : List Str := ["sends", "arrivals", "late"]
theorem sc_loose_sends : FnScope N_loose_sends ["sends", "arrivals", "late"] (defScope s_loose_sends) := ⟨rfl, rfl, rfl, by decide +kernel, rfl, by decide +kernel, by decide +kernel⟩
def ts_loose_sends : TDs := (sSeq (sExpr (eCall 3 C_check_sides (aCons (eV 0) (aCons (eV 1) (aCons (eV 2) aNil)))))
  (sRet true (eCall 3 C_left_out_sends (aCons (eV 0) (aCons (eV 1) (aCons (eV 2) aNil))))))
def C_loose_sends : Ctr := fun args R _ => ∃ (S A : List Int) (L : Int), args = [.d (iD S), .d (iD A), .d (.int L)] ∧ Sides S A L ∧ R (.d (nD (looseS S A L)))
theorem at_loose_sends {S A : List Int} {L : Int} {R : SV → Prop} {RX : Exn → Prop} (v : Sides S A L) (h : R (.d (nD (looseS S A L)))) : C_loose_sends [.d (iD S), .d (iD A), .d (.int L)] R RX := ⟨S, A, L, rfl, v, h⟩
theorem ad_loose_sends : AdOk C_loose_sends ts_loose_sends N_loose_sends 3 := by
  rintro args R RX hl ⟨S, A, L, rfl, v, h⟩
  simp [ts_loose_sends, startD]
  refine at_check_sides v ?_
  exact at_left_out_sends v h
theorem h_loose_sends (T : Tx K mg) (bq : Bq K mg base) : Has P w K mg base (LK K) "loose_sends" 10 ["sends", "arrivals", "late"] C_loose_sends := by
  obtain ⟨_, F_left_out_sends, B_left_out_sends, M_left_out_sends, K_left_out_sends⟩ := h_left_out_sends (P := P) (w := w) (base := base) T bq
  obtain ⟨_, F_check_sides, B_check_sides, M_check_sides, K_check_sides⟩ := h_check_sides (P := P) (w := w) (base := base) T
  obtain ⟨fd, FD⟩ := T.d_loose_sends
  refine ⟨fd, ?_, FD.bindsN fun _ _ _ _ _ _ us hl => match us, hl with | [_, _, _], _ => rfl, T.g_loose_sends, FD.kp⟩
  refine fn_ok (ts := ts_loose_sends) FD sc_loose_sends (fun cdv A outer s H E hr => ?_) ad_loose_sends
  have sc := sc_loose_sends
  exact (ds_cons (d_expr (dx_call (k := 4) F_check_sides takes_cx (by exact hr.mono (by decide)) (by rfl) M_check_sides K_check_sides B_check_sides (da_cons (dx_var 0) (da_cons (dx_var 1) (da_cons (dx_var 2) da_nil)))))
  (ds_one (d_ret (dx_call (k := 9) F_left_out_sends takes_cx (by exact hr.mono (by decide)) (by rfl) M_left_out_sends K_left_out_sends B_left_out_sends (da_cons (dx_var 0) (da_cons (dx_var 1) (da_cons (dx_var 2) da_nil)))))))
abbrev N_loose_arrivals : List Str := ["sends", "arrivals", "late"]
theorem sc_loose_arrivals : FnScope N_loose_arrivals ["sends", "arrivals", "late"] (defScope s_loose_arrivals) := ⟨rfl, rfl, rfl, by decide +kernel, rfl, by decide +kernel, by decide +kernel⟩
def ts_loose_arrivals : TDs := (sSeq (sExpr (eCall 3 C_check_sides (aCons (eV 0) (aCons (eV 1) (aCons (eV 2) aNil)))))
  (sRet true (eCall 3 C_left_out_arrivals (aCons (eV 0) (aCons (eV 1) (aCons (eV 2) aNil))))))
def C_loose_arrivals : Ctr := fun args R _ => ∃ (S A : List Int) (L : Int), args = [.d (iD S), .d (iD A), .d (.int L)] ∧ Sides S A L ∧ R (.d (nD (looseA S A L)))
theorem at_loose_arrivals {S A : List Int} {L : Int} {R : SV → Prop} {RX : Exn → Prop} (v : Sides S A L) (h : R (.d (nD (looseA S A L)))) : C_loose_arrivals [.d (iD S), .d (iD A), .d (.int L)] R RX := ⟨S, A, L, rfl, v, h⟩
theorem ad_loose_arrivals : AdOk C_loose_arrivals ts_loose_arrivals N_loose_arrivals 3 := by
  rintro args R RX hl ⟨S, A, L, rfl, v, h⟩
  simp [ts_loose_arrivals, startD]
  refine at_check_sides v ?_
  exact at_left_out_arrivals v h
theorem h_loose_arrivals (T : Tx K mg) (bq : Bq K mg base) : Has P w K mg base (LK K) "loose_arrivals" 10 ["sends", "arrivals", "late"] C_loose_arrivals := by
  obtain ⟨_, F_left_out_arrivals, B_left_out_arrivals, M_left_out_arrivals, K_left_out_arrivals⟩ := h_left_out_arrivals (P := P) (w := w) (base := base) T bq
  obtain ⟨_, F_check_sides, B_check_sides, M_check_sides, K_check_sides⟩ := h_check_sides (P := P) (w := w) (base := base) T
  obtain ⟨fd, FD⟩ := T.d_loose_arrivals
  refine ⟨fd, ?_, FD.bindsN fun _ _ _ _ _ _ us hl => match us, hl with | [_, _, _], _ => rfl, T.g_loose_arrivals, FD.kp⟩
  refine fn_ok (ts := ts_loose_arrivals) FD sc_loose_arrivals (fun cdv A outer s H E hr => ?_) ad_loose_arrivals
  have sc := sc_loose_arrivals
  exact (ds_cons (d_expr (dx_call (k := 4) F_check_sides takes_cx (by exact hr.mono (by decide)) (by rfl) M_check_sides K_check_sides B_check_sides (da_cons (dx_var 0) (da_cons (dx_var 1) (da_cons (dx_var 2) da_nil)))))
  (ds_one (d_ret (dx_call (k := 9) F_left_out_arrivals takes_cx (by exact hr.mono (by decide)) (by rfl) M_left_out_arrivals K_left_out_arrivals B_left_out_arrivals (da_cons (dx_var 0) (da_cons (dx_var 1) (da_cons (dx_var 2) da_nil)))))))
abbrev N_account_of : List Str := ["sends", "arrivals", "late", "losses", "duplicates", "orphan", "pairs"]
theorem sc_account_of : FnScope N_account_of ["sends", "arrivals", "late", "losses", "duplicates"] (defScope s_account_of) := ⟨rfl, rfl, rfl, by decide +kernel, rfl, by decide +kernel, by decide +kernel⟩
def ts_account_of : TDs := (sSeq (sSet ff 5 (eCall 3 C_first_orphan (aCons (eV 0) (aCons (eV 1) (aCons (eV 2) aNil)))))
  (sSeq (sIf (tNotN (eV 5))
  (sRet true (eTup (aCons (eC (.str "orphan")) (aCons (eN (eV 5)) aNil))))
  sNil)
  (sSeq (sSet ff 6 (eCall 3 C_pair_count (aCons (eV 0) (aCons (eV 1) (aCons (eV 2) aNil)))))
  (sSeq (sIf (tB2 (opD (cmpI fun i j => decide (j < i))) (eB (opD subD) (e1 lenV (eV 0)) (eV 6)) (eV 3))
  (sRet true (eTup (aCons (eC (.str "lost")) (aCons (eCall 3 C_left_out_sends (aCons (eV 0) (aCons (eV 1) (aCons (eV 2) aNil)))) aNil))))
  sNil)
  (sSeq (sIf (tB2 (opD (cmpI fun i j => decide (j < i))) (eB (opD subD) (e1 lenV (eV 1)) (eV 6)) (eV 4))
  (sRet true (eTup (aCons (eC (.str "extra")) (aCons (eCall 3 C_left_out_arrivals (aCons (eV 0) (aCons (eV 1) (aCons (eV 2) aNil)))) aNil))))
  sNil)
  (sRet true (eTup (aCons (eC (.str "matched")) (aCons (eCall 3 C_assign (aCons (eV 0) (aCons (eV 1) (aCons (eV 2) aNil)))) aNil)))))))))
noncomputable def acc (S A : List Int) (L X Y : Int) : PyData := match orph S A L with
  | some k => .tuple [.str "orphan", kD k]
  | none => if X < (S.length : Int) - (cntS S A L : Nat) then .tuple [.str "lost", nD (looseS S A L)] else if Y < (A.length : Int) - (cntS S A L : Nat) then .tuple [.str "extra", nD (looseA S A L)] else .tuple [.str "matched", nD (asg S A L)]
def C_account_of : Ctr := fun args R _ => ∃ (S A : List Int) (L X Y : Int), args = [.d (iD S), .d (iD A), .d (.int L), .d (.int X), .d (.int Y)] ∧ Sides S A L ∧ R (.d (acc S A L X Y))
theorem at_account_of {S A : List Int} {L X Y : Int} {R : SV → Prop} {RX : Exn → Prop} (v : Sides S A L) (h : R (.d (acc S A L X Y))) : C_account_of [.d (iD S), .d (iD A), .d (.int L), .d (.int X), .d (.int Y)] R RX := ⟨S, A, L, X, Y, rfl, v, h⟩
theorem ad_account_of : AdOk C_account_of ts_account_of N_account_of 5 := by
  rintro args R RX hl ⟨S, A, L, X, Y, rfl, v, h⟩
  simp [ts_account_of, startD]
  refine at_first_orphan v ?_
  unfold acc at h
  cases e : orph S A L with
  | some k =>
    rw [e] at h
    simpa [oD, isNoneV, kD] using h
  | none =>
    rw [e] at h
    simp [oD, isNoneV]
    refine at_pair_count v ?_
    simp [iD]
    by_cases c1 : X < (S.length : Int) - (cntS S A L : Nat)
    · simp [c1] at h ⊢
      refine at_left_out_sends v ?_
      simpa using h
    · simp [c1] at h ⊢
      by_cases c2 : Y < (A.length : Int) - (cntS S A L : Nat)
      · simp [c2] at h ⊢
        refine at_left_out_arrivals v ?_
        simpa using h
      · simp [c2] at h ⊢
        refine at_assign v e ?_
        simpa using h
theorem h_account_of (T : Tx K mg) (bq : Bq K mg base) : Has P w K mg base (LK K) "account_of" 10 ["sends", "arrivals", "late", "losses", "duplicates"] C_account_of := by
  obtain ⟨_, F_assign, B_assign, M_assign, K_assign⟩ := h_assign (P := P) (w := w) (base := base) T
  obtain ⟨_, F_left_out_arrivals, B_left_out_arrivals, M_left_out_arrivals, K_left_out_arrivals⟩ := h_left_out_arrivals (P := P) (w := w) (base := base) T bq
  obtain ⟨_, F_left_out_sends, B_left_out_sends, M_left_out_sends, K_left_out_sends⟩ := h_left_out_sends (P := P) (w := w) (base := base) T bq
  obtain ⟨_, F_pair_count, B_pair_count, M_pair_count, K_pair_count⟩ := h_pair_count (P := P) (w := w) (base := base) T
  obtain ⟨_, F_first_orphan, B_first_orphan, M_first_orphan, K_first_orphan⟩ := h_first_orphan (P := P) (w := w) (base := base) T
  have m_len : mg "len" = none := T.fr "len" (by decide)
  obtain ⟨fd, FD⟩ := T.d_account_of
  refine ⟨fd, ?_, FD.bindsN fun _ _ _ _ _ _ us hl => match us, hl with | [_, _, _, _, _], _ => rfl, T.g_account_of, FD.kp⟩
  refine fn_ok (ts := ts_account_of) FD sc_account_of (fun cdv A outer s H E hr => ?_) ad_account_of
  have sc := sc_account_of
  exact (ds_cons (d_set 5 sc.nd (dx_call (k := 2) F_first_orphan takes_cx (by exact hr.mono (by decide)) (by rfl) M_first_orphan K_first_orphan B_first_orphan (da_cons (dx_var 0) (da_cons (dx_var 1) (da_cons (dx_var 2) da_nil)))))
  (ds_cons (d_if (dt_notNone (dx_var 5))
  (ds_one (d_ret (dx_tup (da_cons dx_str (da_cons (dx_n (dx_var 5)) da_nil)))))
  ds_nil)
  (ds_cons (d_set 6 sc.nd (dx_call (k := 2) F_pair_count takes_cx (by exact hr.mono (by decide)) (by rfl) M_pair_count K_pair_count B_pair_count (da_cons (dx_var 0) (da_cons (dx_var 1) (da_cons (dx_var 2) da_nil)))))
  (ds_cons (d_if (dt_gt (dx_sub (dx_len (by rfl) m_len (dx_var 0)) (dx_var 6)) (dx_var 3))
  (ds_one (d_ret (dx_tup (da_cons dx_str (da_cons (dx_call (k := 9) F_left_out_sends takes_cx (by exact hr.mono (by decide)) (by rfl) M_left_out_sends K_left_out_sends B_left_out_sends (da_cons (dx_var 0) (da_cons (dx_var 1) (da_cons (dx_var 2) da_nil)))) da_nil)))))
  ds_nil)
  (ds_cons (d_if (dt_gt (dx_sub (dx_len (by rfl) m_len (dx_var 1)) (dx_var 6)) (dx_var 4))
  (ds_one (d_ret (dx_tup (da_cons dx_str (da_cons (dx_call (k := 9) F_left_out_arrivals takes_cx (by exact hr.mono (by decide)) (by rfl) M_left_out_arrivals K_left_out_arrivals B_left_out_arrivals (da_cons (dx_var 0) (da_cons (dx_var 1) (da_cons (dx_var 2) da_nil)))) da_nil)))))
  ds_nil)
  (ds_one (d_ret (dx_tup (da_cons dx_str (da_cons (dx_call (k := 2) F_assign takes_cx (by exact hr.mono (by decide)) (by rfl) M_assign K_assign B_assign (da_cons (dx_var 0) (da_cons (dx_var 1) (da_cons (dx_var 2) da_nil)))) da_nil))))))))))
abbrev N_account : List Str := ["sends", "arrivals", "late", "losses", "duplicates"]
theorem sc_account : FnScope N_account ["sends", "arrivals", "late", "losses", "duplicates"] (defScope s_account) := ⟨rfl, rfl, rfl, by decide +kernel, rfl, by decide +kernel, by decide +kernel⟩
def ts_account : TDs := (sSeq (sExpr (eCall 3 C_check_sides (aCons (eV 0) (aCons (eV 1) (aCons (eV 2) aNil)))))
  (sSeq (sExpr (eCall 1 C_check_losses (aCons (eV 3) aNil)))
  (sSeq (sExpr (eCall 1 C_check_duplicates (aCons (eV 4) aNil)))
  (sRet true (eCall 5 C_account_of (aCons (eV 0) (aCons (eV 1) (aCons (eV 2) (aCons (eV 3) (aCons (eV 4) aNil))))))))))
def C_account : Ctr := fun args R _ => ∃ (S A : List Int) (L X Y : Int), args = [.d (iD S), .d (iD A), .d (.int L), .d (.int X), .d (.int Y)] ∧ Sides S A L ∧ (0 ≤ X ∧ X ≤ 40) ∧ (0 ≤ Y ∧ Y ≤ 40) ∧ R (.d (acc S A L X Y))
theorem at_account {S A : List Int} {L X Y : Int} {R : SV → Prop} {RX : Exn → Prop} (v : Sides S A L) (hX : 0 ≤ X ∧ X ≤ 40) (hY : 0 ≤ Y ∧ Y ≤ 40) (h : R (.d (acc S A L X Y))) : C_account [.d (iD S), .d (iD A), .d (.int L), .d (.int X), .d (.int Y)] R RX := ⟨S, A, L, X, Y, rfl, v, hX, hY, h⟩
theorem ad_account : AdOk C_account ts_account N_account 5 := by
  rintro args R RX hl ⟨S, A, L, X, Y, rfl, v, hX, hY, h⟩
  simp [ts_account, startD]
  refine at_check_sides v ?_
  refine at_check_losses hX.1 hX.2 ?_
  refine at_check_duplicates hY.1 hY.2 ?_
  exact at_account_of v h
theorem h_account (T : Tx K mg) (bq : Bq K mg base) : Has P w K mg base (LK K) "account" 11 ["sends", "arrivals", "late", "losses", "duplicates"] C_account := by
  obtain ⟨_, F_account_of, B_account_of, M_account_of, K_account_of⟩ := h_account_of (P := P) (w := w) (base := base) T bq
  obtain ⟨_, F_check_duplicates, B_check_duplicates, M_check_duplicates, K_check_duplicates⟩ := h_check_duplicates (P := P) (w := w) (base := base) T
  obtain ⟨_, F_check_losses, B_check_losses, M_check_losses, K_check_losses⟩ := h_check_losses (P := P) (w := w) (base := base) T
  obtain ⟨_, F_check_sides, B_check_sides, M_check_sides, K_check_sides⟩ := h_check_sides (P := P) (w := w) (base := base) T
  obtain ⟨fd, FD⟩ := T.d_account
  refine ⟨fd, ?_, FD.bindsN fun _ _ _ _ _ _ us hl => match us, hl with | [_, _, _, _, _], _ => rfl, T.g_account, FD.kp⟩
  refine fn_ok (ts := ts_account) FD sc_account (fun cdv A outer s H E hr => ?_) ad_account
  have sc := sc_account
  exact (ds_cons (d_expr (dx_call (k := 4) F_check_sides takes_cx (by exact hr.mono (by decide)) (by rfl) M_check_sides K_check_sides B_check_sides (da_cons (dx_var 0) (da_cons (dx_var 1) (da_cons (dx_var 2) da_nil)))))
  (ds_cons (d_expr (dx_call (k := 3) F_check_losses takes_cx (by exact hr.mono (by decide)) (by rfl) M_check_losses K_check_losses B_check_losses (da_cons (dx_var 3) da_nil)))
  (ds_cons (d_expr (dx_call (k := 3) F_check_duplicates takes_cx (by exact hr.mono (by decide)) (by rfl) M_check_duplicates K_check_duplicates B_check_duplicates (da_cons (dx_var 4) da_nil)))
  (ds_one (d_ret (dx_call (k := 10) F_account_of takes_cx (by exact hr.mono (by decide)) (by rfl) M_account_of K_account_of B_account_of (da_cons (dx_var 0) (da_cons (dx_var 1) (da_cons (dx_var 2) (da_cons (dx_var 3) (da_cons (dx_var 4) da_nil)))))))))))
abbrev N_shows_matched : List Str := ["sends", "arrivals", "late", "losses", "duplicates", "indexes", "used"]
theorem sc_shows_matched : FnScope N_shows_matched ["sends", "arrivals", "late", "losses", "duplicates", "indexes"] (defScope s_shows_matched) := ⟨rfl, rfl, rfl, by decide +kernel, rfl, by decide +kernel, by decide +kernel⟩
def ts_shows_matched : TDs := (sSeq (sExpr (eCall 3 C_check_sides (aCons (eV 0) (aCons (eV 1) (aCons (eV 2) aNil)))))
  (sSeq (sExpr (eCall 1 C_check_losses (aCons (eV 3) aNil)))
  (sSeq (sExpr (eCall 1 C_check_duplicates (aCons (eV 4) aNil)))
  (sSeq (sIf (tNotD (tOf (eCall 4 C_is_assignment (aCons (eV 0) (aCons (eV 1) (aCons (eV 2) (aCons (eV 5) aNil)))))))
  (sRet true (eC (.bool false)))
  sNil)
  (sSeq (sSet ff 6 (eLenSet (eV 5)))
  (sRet true (eAnd (eB (opD (cmpI fun i j => decide (i ≤ j))) (eB (opD subD) (e1 lenV (eV 0)) (eV 6)) (eV 3)) (eB (opD (cmpI fun i j => decide (i ≤ j))) (eB (opD subD) (e1 lenV (eV 1)) (eV 6)) (eV 4)))))))))
def shwM (S A : List Int) (L X Y : Int) (x : PyData) : Bool := isAsg S A L x && (match x with
  | .tuple ds => decide ((S.length : Int) - (usedN S.length (ds.map intV) : Nat) ≤ X) && decide ((A.length : Int) - (usedN S.length (ds.map intV) : Nat) ≤ Y)
  | _ => false)
theorem asg_ints {S A : List Int} {L : Int} {ds : List PyData} (h : isAsg S A L (.tuple ds) = true) : ds = (ds.map intV).map .int ∧ (∀ i ∈ ds.map intV, 0 ≤ i ∧ i < S.length) ∧ ds.length = A.length := by
  simp only [isAsg, Bool.and_eq_true, decide_eq_true_eq, List.all_eq_true] at h
  obtain ⟨h1, h2⟩ := h
  have at1 : ∀ d ∈ ds, ∃ k, asgOk (rowA S A L k) d = true := fun d hd => by
    obtain ⟨k, hk, e⟩ := List.getElem_of_mem hd
    refine ⟨k, ?_⟩
    have := h2 k (by simp; omega)
    have eg : ds.getD k .none = d := by simp [hk, e]
    rwa [eg] at this
  refine ⟨intV_map fun d hd => ?_, fun i hi => ?_, h1⟩
  · obtain ⟨k, hk⟩ := at1 d hd
    cases d <;> simp [asgOk, isIntD] at hk ⊢
  · obtain ⟨d, hd, rfl⟩ := List.mem_map.mp hi
    obtain ⟨k, hk⟩ := at1 d hd
    cases d <;> simp [asgOk, intV, rowA, mem_aRow] at hk ⊢
    omega
def C_shows_matched : Ctr := fun args R _ => ∃ (S A : List Int) (L X Y : Int) (x : PyData), args = [.d (iD S), .d (iD A), .d (.int L), .d (.int X), .d (.int Y), .d x] ∧ Sides S A L ∧ (0 ≤ X ∧ X ≤ 40) ∧ (0 ≤ Y ∧ Y ≤ 40) ∧ nolist x = true ∧ R (.d (.bool (shwM S A L X Y x)))
theorem at_shows_matched {S A : List Int} {L X Y : Int} {x : PyData} {R : SV → Prop} {RX : Exn → Prop} (v : Sides S A L) (hX : 0 ≤ X ∧ X ≤ 40) (hY : 0 ≤ Y ∧ Y ≤ 40) (hx : nolist x = true) (h : R (.d (.bool (shwM S A L X Y x)))) : C_shows_matched [.d (iD S), .d (iD A), .d (.int L), .d (.int X), .d (.int Y), .d x] R RX := ⟨S, A, L, X, Y, x, rfl, v, hX, hY, hx, h⟩
theorem ad_shows_matched : AdOk C_shows_matched ts_shows_matched N_shows_matched 6 := by
  rintro args R RX hl ⟨S, A, L, X, Y, x, rfl, v, hX, hY, hx, h⟩
  simp [ts_shows_matched, startD]
  refine at_check_sides v ?_
  refine at_check_losses hX.1 hX.2 ?_
  refine at_check_duplicates hY.1 hY.2 ?_
  refine at_is_assignment v hx ?_
  unfold shwM at h
  cases e : isAsg S A L x with
  | false =>
    rw [e] at h
    simpa using h
  | true =>
    rw [e] at h
    cases x with
    | tuple ds =>
      obtain ⟨e1, e2, e3⟩ := asg_ints e
      have := v.a.len
      simp
      refine ⟨ds.map intV, e1, by simp; omega, fun u hu hk => ?_⟩
      rw [used_len hu hk e2]
      simp [iD]
      by_cases c : (S.length : Int) - (usedN S.length (ds.map intV) : Nat) ≤ X
      · simpa [c] using h
      · simpa [c] using h
    | _ => simp [isAsg] at e
theorem h_shows_matched (T : Tx K mg) : Has P w K mg base (LK K) "shows_matched" 5 ["sends", "arrivals", "late", "losses", "duplicates", "indexes"] C_shows_matched := by
  obtain ⟨_, F_is_assignment, B_is_assignment, M_is_assignment, K_is_assignment⟩ := h_is_assignment (P := P) (w := w) (base := base) T
  obtain ⟨_, F_check_duplicates, B_check_duplicates, M_check_duplicates, K_check_duplicates⟩ := h_check_duplicates (P := P) (w := w) (base := base) T
  obtain ⟨_, F_check_losses, B_check_losses, M_check_losses, K_check_losses⟩ := h_check_losses (P := P) (w := w) (base := base) T
  obtain ⟨_, F_check_sides, B_check_sides, M_check_sides, K_check_sides⟩ := h_check_sides (P := P) (w := w) (base := base) T
  have m_len : mg "len" = none := T.fr "len" (by decide)
  have m_set : mg "set" = none := T.fr "set" (by decide)
  obtain ⟨fd, FD⟩ := T.d_shows_matched
  refine ⟨fd, ?_, FD.bindsN fun _ _ _ _ _ _ us hl => match us, hl with | [_, _, _, _, _, _], _ => rfl, T.g_shows_matched, FD.kp⟩
  refine fn_ok (ts := ts_shows_matched) FD sc_shows_matched (fun cdv A outer s H E hr => ?_) ad_shows_matched
  have sc := sc_shows_matched
  exact (ds_cons (d_expr (dx_call (k := 4) F_check_sides takes_cx (by exact hr.mono (by decide)) (by rfl) M_check_sides K_check_sides B_check_sides (da_cons (dx_var 0) (da_cons (dx_var 1) (da_cons (dx_var 2) da_nil)))))
  (ds_cons (d_expr (dx_call (k := 3) F_check_losses takes_cx (by exact hr.mono (by decide)) (by rfl) M_check_losses K_check_losses B_check_losses (da_cons (dx_var 3) da_nil)))
  (ds_cons (d_expr (dx_call (k := 3) F_check_duplicates takes_cx (by exact hr.mono (by decide)) (by rfl) M_check_duplicates K_check_duplicates B_check_duplicates (da_cons (dx_var 4) da_nil)))
  (ds_cons (d_if (dt_not (dt_of (dx_call (k := 3) F_is_assignment takes_cx (by exact hr.mono (by decide)) (by rfl) M_is_assignment K_is_assignment B_is_assignment (da_cons (dx_var 0) (da_cons (dx_var 1) (da_cons (dx_var 2) (da_cons (dx_var 5) da_nil)))))))
  (ds_one (d_ret dx_bool))
  ds_nil)
  (ds_cons (d_set 6 sc.nd (dx_lenSet (by rfl) m_len (by rfl) m_set (dx_var 5)))
  (ds_one (d_ret (dx_and (dx_le (dx_sub (dx_len (by rfl) m_len (dx_var 0)) (dx_var 6)) (dx_var 3)) (dx_one (dx_le (dx_sub (dx_len (by rfl) m_len (dx_var 1)) (dx_var 6)) (dx_var 4)))))))))))
abbrev N_check_indexes : List Str := ["indexes", "count", "index"]
theorem sc_check_indexes : FnScope N_check_indexes ["indexes", "count"] (defScope s_check_indexes) := ⟨rfl, rfl, rfl, by decide +kernel, rfl, by decide +kernel, by decide +kernel⟩
def ts_check_indexes : TDs := (sFor (iSeqD fs (eVD 0)) (gN 2)
  (sIf (tNotD (tOf (eCall 3 C_is_int_in (aCons (eV 2) (aCons (eC (.int 0)) (aCons (eB (opD subD) (eV 1) (eC (.int 1))) aNil))))))
  (sRaise "BadIndex" ["index"] (aCons (eN (eV 2)) aNil))
  sNil))
def C_check_indexes : Ctr := fun args R _ => ∃ (l : List Nat) (n : Nat), args = [.d (nD l), .d (.int (n : Nat))] ∧ (∀ x ∈ l, x < n) ∧ R (.d .none)
theorem at_check_indexes {l : List Nat} {n : Nat} {R : SV → Prop} {RX : Exn → Prop} (v : ∀ x ∈ l, x < n) (h : R (.d .none)) : C_check_indexes [.d (nD l), .d (.int (n : Nat))] R RX := ⟨l, n, rfl, v, h⟩
theorem ad_check_indexes : AdOk C_check_indexes ts_check_indexes N_check_indexes 2 := by
  rintro args R RX hl ⟨l, n, rfl, v, h⟩
  simp [ts_check_indexes, startD, nD, ownSeq]
  refine forL_list _ (fun k δ => ∃ o, δ = [some (.d (.tuple (l.map kD))), some (.d (.int (n : Nat))), o]) ?_ ?_ _ ⟨_, rfl⟩
  · rintro k d δ K hd hK ⟨o, rfl⟩
    have hd := List.mem_of_getElem? hd
    obtain ⟨x, hx, rfl⟩ := List.mem_map.mp hd
    have := v x hx
    have e : inRD (kD x) 0 ((n : Int) - 1) = true := by simp [inRD, kD]; omega
    have ok : okD (kD x) = true := rfl
    simp [e, ok]
    exact hK _ ⟨_, rfl⟩
  · rintro δ ⟨o, rfl⟩
    exact h
theorem h_check_indexes (T : Tx K mg) : Has P w K mg base (LK K) "check_indexes" 3 ["indexes", "count"] C_check_indexes := by
  obtain ⟨_, F_is_int_in, B_is_int_in, M_is_int_in, K_is_int_in⟩ := h_is_int_in (P := P) (w := w) (base := base) T
  obtain ⟨fd, FD⟩ := T.d_check_indexes
  refine ⟨fd, ?_, FD.bindsN fun _ _ _ _ _ _ us hl => match us, hl with | [_, _], _ => rfl, T.g_check_indexes, FD.kp⟩
  refine fn_ok (ts := ts_check_indexes) FD sc_check_indexes (fun cdv A outer s H E hr => ?_) ad_check_indexes
  have sc := sc_check_indexes
  exact (ds_one (d_for (by exact passes_of rfl) (by rfl) (di_seq (fl := fs) true (dx_varD 0)) (dg_name 2 sc.nd)
  (ds_one (d_if (dt_not (dt_of (dx_call (k := 2) F_is_int_in takes_cx (by exact hr.mono (by decide)) (by rfl) M_is_int_in K_is_int_in B_is_int_in (da_cons (dx_var 2) (da_cons (dx_w fb dx_int) (da_cons (dx_w fb (dx_sub (dx_var 1) dx_int)) da_nil))))))
  (ds_one (d_raise (fl := ff) (io_BadIndex T) (by decide) takes_cx (by rfl) (by exact hr.mono (by decide)) (by rfl) T.g_BadIndex (by decide) (da_cons (dx_n (dx_var 2)) da_nil)))
  ds_nil))))
abbrev N_is_index_row : List Str := ["thing", "count", "index"]
theorem sc_is_index_row : FnScope N_is_index_row ["thing", "count"] (defScope s_is_index_row) := ⟨rfl, rfl, rfl, by decide +kernel, rfl, by decide +kernel, by decide +kernel⟩
def ts_is_index_row : TDs := (sSeq (sIf (tNotD (tOf (eIsi isTupS (eV 0))))
  (sRet true (eC (.bool false)))
  sNil)
  (sSeq (sFor (iSeqD fs (eVD 0)) (gN 2)
  (sIf (tNotD (tOf (eCall 3 C_is_int_in (aCons (eV 2) (aCons (eC (.int 0)) (aCons (eB (opD subD) (eV 1) (eC (.int 1))) aNil))))))
  (sRet true (eC (.bool false)))
  sNil))
  (sRet true (eCall 1 C_is_ascending (aCons (eV 0) aNil)))))
def lenOk : PyData → Prop
  | .tuple ds => ds.length ≤ 100
  | _ => True
def C_is_index_row : Ctr := fun args R _ => ∃ (x : PyData) (n : Nat), args = [.d x, .d (.int (n : Nat))] ∧ nolist x = true ∧ lenOk x ∧ R (.d (.bool (isIdx n x)))
theorem at_is_index_row {x : PyData} {n : Nat} {R : SV → Prop} {RX : Exn → Prop} (hx : nolist x = true) (hl : lenOk x) (h : R (.d (.bool (isIdx n x)))) : C_is_index_row [.d x, .d (.int (n : Nat))] R RX := ⟨x, n, rfl, hx, hl, h⟩
theorem ad_is_index_row : AdOk C_is_index_row ts_is_index_row N_is_index_row 2 := by
  rintro args R RX hl ⟨x, n, rfl, hx, hlen, h⟩
  have ok := okD_nol hx
  cases x with
  | tuple ds =>
    simp [ts_is_index_row, startD, ownSeq]
    refine forL_list ds (fun k δ => ∃ o, δ = [some (.d (.tuple ds)), some (.d (.int (n : Nat))), o] ∧ ∀ i, i < k → inRD (ds.getD i .none) 0 ((n : Int) - 1) = true) ?_ ?_ _ ⟨_, rfl, fun i hi => by omega⟩
    · rintro k d δ K hd hK ⟨o, rfl, hb⟩
      have nk := nol_get (by simpa using hx) hd
      have okk := okD_nol nk
      have eg : ds.getD k .none = d := by simp [List.getD, hd]
      simp [okk]
      cases e : inRD d 0 ((n : Int) - 1) with
      | true =>
        simp
        refine hK _ ⟨_, rfl, fun i hi => ?_⟩
        rcases Nat.eq_or_lt_of_le (Nat.le_of_lt_succ hi) with g | g
        · rw [g, eg]; exact e
        · exact hb i g
      | false =>
        have : isIdx n (.tuple ds) = false := by
          have : ds.all (fun d => inRD d 0 ((n : Int) - 1)) = false := by
            rw [List.all_eq_false]
            exact ⟨d, List.mem_of_getElem? hd, by rw [e]; simp⟩
          simp only [isIdx, this, Bool.false_and]
        rw [this] at h
        simpa using h
    · rintro δ ⟨o, rfl, hb⟩
      have all : ds.all (fun d => inRD d 0 ((n : Int) - 1)) = true := by
        rw [List.all_eq_true]
        intro d hd
        obtain ⟨k, hk, e⟩ := List.getElem_of_mem hd
        have := hb k hk
        simpa [hk, e] using this
      have e := intV_map (ds := ds) fun d hd => by
        have := List.all_eq_true.mp all d hd
        cases d <;> simp [inRD, isIntD] at this ⊢
      simp
      refine ⟨ds.map intV, by rw [iD, ← e], by simp [lenOk] at hlen ⊢; omega, ?_⟩
      simpa [isIdx, all] using h
  | _ => first
    | (simp [nolist] at hx; done)
    | (simp [ts_is_index_row, startD, isTupD, isIdx] at h ⊢; exact h)
theorem h_is_index_row (T : Tx K mg) : Has P w K mg base (LK K) "is_index_row" 3 ["thing", "count"] C_is_index_row := by
  obtain ⟨_, F_is_ascending, B_is_ascending, M_is_ascending, K_is_ascending⟩ := h_is_ascending (P := P) (w := w) (base := base) T
  obtain ⟨_, F_is_int_in, B_is_int_in, M_is_int_in, K_is_int_in⟩ := h_is_int_in (P := P) (w := w) (base := base) T
  have m_tuple : mg "tuple" = none := T.fr "tuple" (by decide)
  have m_isinstance : mg "isinstance" = none := T.fr "isinstance" (by decide)
  obtain ⟨fd, FD⟩ := T.d_is_index_row
  refine ⟨fd, ?_, FD.bindsN fun _ _ _ _ _ _ us hl => match us, hl with | [_, _], _ => rfl, T.g_is_index_row, FD.kp⟩
  refine fn_ok (ts := ts_is_index_row) FD sc_is_index_row (fun cdv A outer s H E hr => ?_) ad_is_index_row
  have sc := sc_is_index_row
  exact (ds_cons (d_if (dt_not (dt_of (dx_isi kit_tup (by rfl) m_tuple (by decide +kernel) (by rfl) m_isinstance (by decide +kernel) (dx_var 0))))
  (ds_one (d_ret dx_bool))
  ds_nil)
  (ds_cons (d_for (by exact passes_of rfl) (by rfl) (di_seq (fl := fs) true (dx_varD 0)) (dg_name 2 sc.nd)
  (ds_one (d_if (dt_not (dt_of (dx_call (k := 2) F_is_int_in takes_cx (by exact hr.mono (by decide)) (by rfl) M_is_int_in K_is_int_in B_is_int_in (da_cons (dx_var 2) (da_cons (dx_w fb dx_int) (da_cons (dx_w fb (dx_sub (dx_var 1) dx_int)) da_nil))))))
  (ds_one (d_ret dx_bool))
  ds_nil)))
  (ds_one (d_ret (dx_call (k := 1) F_is_ascending takes_cx (by exact hr.mono (by decide)) (by rfl) M_is_ascending K_is_ascending B_is_ascending (da_cons (dx_var 0) da_nil))))))
abbrev N_partners_of : List Str := ["rows", "indexes", "index", "partner"]
theorem sc_partners_of : FnScope N_partners_of ["rows", "indexes"] (defScope s_partners_of) := ⟨rfl, rfl, rfl, by decide +kernel, rfl, by decide +kernel, by decide +kernel⟩
def ts_partners_of : TDs := (sRet true (e1 (un1 tupD) (scS (iVarD 1) (eIx (eV 0) (eV 2)) (eV 3) 2 3 [2, 3] [3])))
/-- rows of numbers below m -/
structure RowsOk (rows : List (List Nat)) (m : Nat) : Prop where
  n40 : rows.length ≤ 40
  m40 : m ≤ 40
  ln : ∀ r ∈ rows, r.length ≤ 40
  lt : ∀ r ∈ rows, ∀ y ∈ r, y < m
theorem sRows_ok {S A : List Int} {L : Int} (v : Sides S A L) : RowsOk (sRows S A L) A.length := ⟨by simp [sRows]; exact v.s.len, v.a.len, fun r hr => by
  obtain ⟨s, _, rfl⟩ := List.mem_map.mp hr
  have := List.length_filter_le (fun k => N50.part L s (A.getD k 0)) (List.range A.length)
  rw [List.length_range] at this
  have := v.a.len
  unfold sRow
  omega, fun r hr y hy => by
  obtain ⟨s, _, rfl⟩ := List.mem_map.mp hr
  exact ((mem_sRow A L).mp hy).1⟩
theorem aRows_ok {S A : List Int} {L : Int} (v : Sides S A L) : RowsOk (aRows S A L) S.length := ⟨by simp [aRows]; exact v.a.len, v.s.len, fun r hr => by
  obtain ⟨s, _, rfl⟩ := List.mem_map.mp hr
  have := List.length_filter_le (fun k => N50.part L (S.getD k 0) s) (List.range S.length)
  rw [List.length_range] at this
  have := v.s.len
  unfold aRow
  omega, fun r hr y hy => by
  obtain ⟨s, _, rfl⟩ := List.mem_map.mp hr
  exact ((mem_aRow S L).mp hy).1⟩
def Prt (rows : List (List Nat)) (idx : List Nat) (y : Nat) : Prop := ∃ x ∈ idx, y ∈ rows.getD x []
noncomputable abbrev prt (rows : List (List Nat)) (m : Nat) (idx : List Nat) : List Nat := lst m (Prt rows idx)
def toI (l : List Nat) : List Int := l.map fun k : Nat => (k : Int)
def C_partners_of : Ctr := fun args R _ => ∃ (rows : List (List Nat)) (m : Nat) (idx : List Nat), args = [.d (rD rows), .d (nD idx)] ∧ RowsOk rows m ∧ idx.length ≤ 50 ∧ (∀ x ∈ idx, x < rows.length) ∧ R (.d (nD (prt rows m idx)))
theorem at_partners_of {rows : List (List Nat)} {m : Nat} {idx : List Nat} {R : SV → Prop} {RX : Exn → Prop} (v : RowsOk rows m) (h1 : idx.length ≤ 50) (h2 : ∀ x ∈ idx, x < rows.length) (h : R (.d (nD (prt rows m idx)))) : C_partners_of [.d (rD rows), .d (nD idx)] R RX := ⟨rows, m, idx, rfl, v, h1, h2, h⟩
theorem scI_nat (δ : DS) (hδ : ∃ a b c, δ = [a, b, c, none]) (R : List Int → Prop) : ∀ (ys : List Nat) (acc : List Int), acc.length + ys.length < 4000 → R (acc ++ toI ys) → scI (eV 3) 3 δ (toI ys) acc R
  | [], acc, _, h => by have h' : R acc := by simpa [toI] using h
                        exact h'
  | y :: r, acc, hl, h => by
    obtain ⟨a, b, c, rfl⟩ := hδ
    simp at hl
    simp [toI, scI, wI]
    refine ⟨by omega, ?_⟩
    exact scI_nat _ ⟨a, b, c, rfl⟩ R r (acc ++ [(y : Int)]) (by simp; omega) (by simpa [toI] using h)
theorem ad_partners_of : AdOk C_partners_of ts_partners_of N_partners_of 2 := by
  rintro args R RX hl ⟨rows, m, idx, rfl, v, h1, h2, h⟩
  have m40 := v.m40
  simp [ts_partners_of, startD, scS, ownSeq]
  have go : ∀ (r : List Nat) (acc : List Int) (R' : List Int → Prop), (∀ x ∈ r, x < rows.length) → acc.length + 40 * r.length < 4000 → R' (acc ++ r.flatMap fun x => toI (rows.getD x [])) → scO (eIx (eV 0) (eV 2)) (eV 3) 2 3 [3] [some (.d (rD rows)), some (.d (nD idx)), none, none] (r.map kD) acc R' := by
    intro r
    induction r with
    | nil => intro acc R' _ _ h; have h' : R' acc := by simpa using h
             exact h'
    | cons x r ih =>
      intro acc R' hx hlen h
      have hx0 := hx x (by simp)
      have mem : rows[x] ∈ rows := List.getElem_mem _
      have rl := v.ln _ mem
      have eg : rows.getD x [] = rows[x] := by simp [hx0]
      have g := getM (F := nD) hx0
      simp at hlen
      simp [scO, kD, rD, g]
      refine ⟨toI rows[x], by simp [nD, toI, kD, Function.comp_def], ?_⟩
      refine scI_nat _ ⟨_, _, _, rfl⟩ _ rows[x] acc (by omega) ?_
      have := ih (acc ++ toI rows[x]) R' (fun z hz => hx z (by simp [hz])) (by simp [toI]; omega) (by rw [List.flatMap_cons, eg] at h; simpa using h)
      simpa [rD] using this
  refine go idx [] _ h2 (by simp; omega) ?_
  have mem : ∀ k : Int, k ∈ (idx.flatMap fun x => toI (rows.getD x [])) ↔ ∃ y : Nat, k = y ∧ Prt rows idx y := fun k => by
    simp only [List.mem_flatMap, toI, List.mem_map, Prt]
    constructor
    · rintro ⟨x, hx, y, hy, rfl⟩; exact ⟨y, rfl, x, hx, hy⟩
    · rintro ⟨y, rfl, x, hx, hy⟩; exact ⟨x, hx, y, hy, rfl⟩
  have lt : ∀ y, Prt rows idx y → y < m := fun y ⟨x, hx, hy⟩ => by
    have hx0 := h2 x hx
    have eg : rows.getD x [] = rows[x] := by simp [hx0]
    rw [eg] at hy
    exact v.lt _ (List.getElem_mem _) y hy
  refine ⟨fun l hn hm => ?_, fun ns hs hm => ?_⟩
  · have : l.length ≤ (toI (List.range m)).length := nodup_sub hn fun k hk => by
      obtain ⟨y, rfl, hy⟩ := (mem k).mp (by simpa using hm k hk)
      exact List.mem_map.mpr ⟨y, List.mem_range.mpr (lt y hy), rfl⟩
    simp [toI] at this
    omega
  · have e : ns = toI (prt rows m idx) := sorted_ext hs (by
      rw [toI, List.pairwise_map]
      exact (lst_asc _ _).imp fun h => by omega) fun k => by
      rw [hm, List.nil_append, mem]
      simp only [toI, List.mem_map, mem_lst]
      constructor
      · rintro ⟨y, e, hy⟩; exact ⟨y, ⟨lt y hy, hy⟩, e.symm⟩
      · rintro ⟨y, ⟨_, hy⟩, e⟩; exact ⟨y, e.symm, hy⟩
    subst e
    have e2 : (toI (prt rows m idx)).map PyData.int = (prt rows m idx).map kD := by simp [toI, Function.comp_def, kD]
    show nolistA ((toI (prt rows m idx)).map PyData.int) = true ∧ R (SV.d (PyData.tuple ((toI (prt rows m idx)).map PyData.int)))
    rw [e2]
    exact ⟨nol_k _, h⟩
theorem h_partners_of (T : Tx K mg) : Has P w K mg base (LK K) "partners_of" 1 ["rows", "indexes"] C_partners_of := by
  have m_sorted : mg "sorted" = none := T.fr "sorted" (by decide)
  have m_tuple : mg "tuple" = none := T.fr "tuple" (by decide)
  obtain ⟨fd, FD⟩ := T.d_partners_of
  refine ⟨fd, ?_, FD.bindsN fun _ _ _ _ _ _ us hl => match us, hl with | [_, _], _ => rfl, T.g_partners_of, FD.kp⟩
  refine fn_ok (ts := ts_partners_of) FD sc_partners_of (fun cdv A outer s H E hr => ?_) ad_partners_of
  have sc := sc_partners_of
  exact (ds_one (d_ret (dx_tupc (by rfl) m_tuple (dx_sortedSc2 (own := [("index", 2), ("partner", 3)]) (vs1 := [3]) (i0 := 2) (i1 := 3) (by rfl) m_sorted sc.nd (di_var 1) (blkOk_by (own := [("index", 2), ("partner", 3)]) (N := N_partners_of) (sc := defScope s_partners_of) (by decide +kernel)) (fun _ _ _ _ _ => pgn 2 sc.nd) (fun _ _ _ _ _ => (dx_w fb (dx_ix (dx_var 0) (dx_var 2)))) (fun _ _ _ _ _ => pgn 3 sc.nd) (fun _ _ _ _ _ => (dx_var 3))))))
abbrev N_deficit_of : List Str := ["rows", "indexes"]
theorem sc_deficit_of : FnScope N_deficit_of ["rows", "indexes"] (defScope s_deficit_of) := ⟨rfl, rfl, rfl, by decide +kernel, rfl, by decide +kernel, by decide +kernel⟩
def ts_deficit_of : TDs := (sRet true (eB (opD subD) (eLenSet (eV 1)) (e1 lenV (eCall 2 C_partners_of (aCons (eV 0) (aCons (eV 1) aNil))))))
noncomputable def dfc (rows : List (List Nat)) (m : Nat) (idx : List Nat) : Int := (usedN rows.length (toI idx) : Nat) - ((prt rows m idx).length : Nat)
def C_deficit_of : Ctr := fun args R _ => ∃ (rows : List (List Nat)) (m : Nat) (idx : List Nat), args = [.d (rD rows), .d (nD idx)] ∧ RowsOk rows m ∧ idx.length ≤ 50 ∧ (∀ x ∈ idx, x < rows.length) ∧ R (.d (.int (dfc rows m idx)))
theorem at_deficit_of {rows : List (List Nat)} {m : Nat} {idx : List Nat} {R : SV → Prop} {RX : Exn → Prop} (v : RowsOk rows m) (h1 : idx.length ≤ 50) (h2 : ∀ x ∈ idx, x < rows.length) (h : R (.d (.int (dfc rows m idx)))) : C_deficit_of [.d (rD rows), .d (nD idx)] R RX := ⟨rows, m, idx, rfl, v, h1, h2, h⟩
theorem ad_deficit_of : AdOk C_deficit_of ts_deficit_of N_deficit_of 2 := by
  rintro args R RX hl ⟨rows, m, idx, rfl, v, h1, h2, h⟩
  simp [ts_deficit_of, startD, nD]
  refine ⟨toI idx, by simp [toI, Function.comp_def, kD], by simp [toI]; omega, fun u hu hk => ?_⟩
  rw [used_len (n := rows.length) hu hk fun i hi => by
    obtain ⟨x, hx, rfl⟩ := List.mem_map.mp hi
    have := h2 x hx
    omega]
  refine at_partners_of v h1 h2 ?_
  simpa [nD, dfc] using h
theorem h_deficit_of (T : Tx K mg) : Has P w K mg base (LK K) "deficit_of" 2 ["rows", "indexes"] C_deficit_of := by
  obtain ⟨_, F_partners_of, B_partners_of, M_partners_of, K_partners_of⟩ := h_partners_of (P := P) (w := w) (base := base) T
  have m_len : mg "len" = none := T.fr "len" (by decide)
  have m_set : mg "set" = none := T.fr "set" (by decide)
  obtain ⟨fd, FD⟩ := T.d_deficit_of
  refine ⟨fd, ?_, FD.bindsN fun _ _ _ _ _ _ us hl => match us, hl with | [_, _], _ => rfl, T.g_deficit_of, FD.kp⟩
  refine fn_ok (ts := ts_deficit_of) FD sc_deficit_of (fun cdv A outer s H E hr => ?_) ad_deficit_of
  have sc := sc_deficit_of
  exact (ds_one (d_ret (dx_sub (dx_lenSet (by rfl) m_len (by rfl) m_set (dx_var 1)) (dx_len (by rfl) m_len (dx_call (k := 1) F_partners_of takes_cx (by exact hr.mono (by decide)) (by rfl) M_partners_of K_partners_of B_partners_of (da_cons (dx_var 0) (da_cons (dx_var 1) da_nil)))))))
abbrev N_lacks_partners : List Str := ["rows", "indexes", "limit"]
theorem sc_lacks_partners : FnScope N_lacks_partners ["rows", "indexes", "limit"] (defScope s_lacks_partners) := ⟨rfl, rfl, rfl, by decide +kernel, rfl, by decide +kernel, by decide +kernel⟩
def ts_lacks_partners : TDs := (sRet true (eAnd (eCall 2 C_is_index_row (aCons (eV 1) (aCons (e1 lenV (eV 0)) aNil))) (eB (opD (cmpI fun i j => decide (j < i))) (eCall 2 C_deficit_of (aCons (eV 0) (aCons (eV 1) aNil))) (eV 2))))
noncomputable def lack (rows : List (List Nat)) (m : Nat) (x : PyData) (X : Int) : Bool := isIdx rows.length x && (match x with
  | .tuple ds => decide (X < dfc rows m (ds.map fun d => (intV d).toNat))
  | _ => false)
def C_lacks_partners : Ctr := fun args R _ => ∃ (rows : List (List Nat)) (m : Nat) (x : PyData) (X : Int), args = [.d (rD rows), .d x, .d (.int X)] ∧ RowsOk rows m ∧ nolist x = true ∧ lenOk x ∧ R (.d (.bool (lack rows m x X)))
theorem at_lacks_partners {rows : List (List Nat)} {m : Nat} {x : PyData} {X : Int} {R : SV → Prop} {RX : Exn → Prop} (v : RowsOk rows m) (hx : nolist x = true) (hl : lenOk x) (h : R (.d (.bool (lack rows m x X)))) : C_lacks_partners [.d (rD rows), .d x, .d (.int X)] R RX := ⟨rows, m, x, X, rfl, v, hx, hl, h⟩
theorem nats_back (l : List Nat) : (l.map kD).map (fun d => (intV d).toNat) = l := by
  rw [List.map_map]
  conv => rhs; rw [← List.map_id l]
  exact List.map_congr_left fun k _ => by simp [kD, intV]
theorem ad_lacks_partners : AdOk C_lacks_partners ts_lacks_partners N_lacks_partners 3 := by
  rintro args R RX hl ⟨rows, m, x, X, rfl, v, hx, hlen, h⟩
  have n40 := v.n40
  simp [ts_lacks_partners, startD, rD]
  refine at_is_index_row hx hlen ?_
  unfold lack at h
  cases e : isIdx rows.length x with
  | false =>
    rw [e] at h
    simpa using h
  | true =>
    rw [e] at h
    cases x with
    | tuple ds =>
      obtain ⟨l, rfl, hs, hlt⟩ := isIdx_nats e
      have := nodup_bound (asc_nodup hs) hlt
      simp
      refine at_deficit_of v (by omega) hlt ?_
      dsimp only at h
      rw [nats_back] at h
      simpa using h
    | _ => simp [isIdx] at e
theorem h_lacks_partners (T : Tx K mg) : Has P w K mg base (LK K) "lacks_partners" 4 ["rows", "indexes", "limit"] C_lacks_partners := by
  obtain ⟨_, F_is_index_row, B_is_index_row, M_is_index_row, K_is_index_row⟩ := h_is_index_row (P := P) (w := w) (base := base) T
  obtain ⟨_, F_deficit_of, B_deficit_of, M_deficit_of, K_deficit_of⟩ := h_deficit_of (P := P) (w := w) (base := base) T
  have m_len : mg "len" = none := T.fr "len" (by decide)
  obtain ⟨fd, FD⟩ := T.d_lacks_partners
  refine ⟨fd, ?_, FD.bindsN fun _ _ _ _ _ _ us hl => match us, hl with | [_, _, _], _ => rfl, T.g_lacks_partners, FD.kp⟩
  refine fn_ok (ts := ts_lacks_partners) FD sc_lacks_partners (fun cdv A outer s H E hr => ?_) ad_lacks_partners
  have sc := sc_lacks_partners
  exact (ds_one (d_ret (dx_and (dx_call (k := 3) F_is_index_row takes_cx (by exact hr.mono (by decide)) (by rfl) M_is_index_row K_is_index_row B_is_index_row (da_cons (dx_var 1) (da_cons (dx_w fb (dx_len (by rfl) m_len (dx_var 0))) da_nil))) (dx_one (dx_gt (dx_call (k := 2) F_deficit_of takes_cx (by exact hr.mono (by decide)) (by rfl) M_deficit_of K_deficit_of B_deficit_of (da_cons (dx_var 0) (da_cons (dx_var 1) da_nil))) (dx_var 2))))))
abbrev N_send_partners : List Str := ["sends", "arrivals", "late", "indexes"]
theorem sc_send_partners : FnScope N_send_partners ["sends", "arrivals", "late", "indexes"] (defScope s_send_partners) := ⟨rfl, rfl, rfl, by decide +kernel, rfl, by decide +kernel, by decide +kernel⟩
def ts_send_partners : TDs := (sSeq (sExpr (eCall 3 C_check_sides (aCons (eV 0) (aCons (eV 1) (aCons (eV 2) aNil)))))
  (sSeq (sExpr (eCall 2 C_check_indexes (aCons (eV 3) (aCons (e1 lenV (eV 0)) aNil))))
  (sRet true (eCall 2 C_partners_of (aCons (eCall 3 C_send_rows (aCons (eV 0) (aCons (eV 1) (aCons (eV 2) aNil)))) (aCons (eV 3) aNil))))))
def C_send_partners : Ctr := fun args R _ => ∃ (S A : List Int) (L : Int) (idx : List Nat), args = [.d (iD S), .d (iD A), .d (.int L), .d (nD idx)] ∧ Sides S A L ∧ idx.length ≤ 50 ∧ (∀ x ∈ idx, x < S.length) ∧ R (.d (nD (prt (sRows S A L) A.length idx)))
theorem at_send_partners {S A : List Int} {L : Int} {idx : List Nat} {R : SV → Prop} {RX : Exn → Prop} (v : Sides S A L) (h1 : idx.length ≤ 50) (h2 : ∀ x ∈ idx, x < S.length) (h : R (.d (nD (prt (sRows S A L) A.length idx)))) : C_send_partners [.d (iD S), .d (iD A), .d (.int L), .d (nD idx)] R RX := ⟨S, A, L, idx, rfl, v, h1, h2, h⟩
theorem ad_send_partners : AdOk C_send_partners ts_send_partners N_send_partners 4 := by
  rintro args R RX hl ⟨S, A, L, idx, rfl, v, h1, h2, h⟩
  simp [ts_send_partners, startD]
  refine at_check_sides v ?_
  simp [iD]
  refine at_check_indexes h2 ?_
  refine at_send_rows v ?_
  simp
  exact at_partners_of (sRows_ok v) h1 (by simpa [sRows] using h2) h
theorem h_send_partners (T : Tx K mg) : Has P w K mg base (LK K) "send_partners" 5 ["sends", "arrivals", "late", "indexes"] C_send_partners := by
  obtain ⟨_, F_partners_of, B_partners_of, M_partners_of, K_partners_of⟩ := h_partners_of (P := P) (w := w) (base := base) T
  obtain ⟨_, F_send_rows, B_send_rows, M_send_rows, K_send_rows⟩ := h_send_rows (P := P) (w := w) (base := base) T
  obtain ⟨_, F_check_indexes, B_check_indexes, M_check_indexes, K_check_indexes⟩ := h_check_indexes (P := P) (w := w) (base := base) T
  obtain ⟨_, F_check_sides, B_check_sides, M_check_sides, K_check_sides⟩ := h_check_sides (P := P) (w := w) (base := base) T
  have m_len : mg "len" = none := T.fr "len" (by decide)
  obtain ⟨fd, FD⟩ := T.d_send_partners
  refine ⟨fd, ?_, FD.bindsN fun _ _ _ _ _ _ us hl => match us, hl with | [_, _, _, _], _ => rfl, T.g_send_partners, FD.kp⟩
  refine fn_ok (ts := ts_send_partners) FD sc_send_partners (fun cdv A outer s H E hr => ?_) ad_send_partners
  have sc := sc_send_partners
  exact (ds_cons (d_expr (dx_call (k := 4) F_check_sides takes_cx (by exact hr.mono (by decide)) (by rfl) M_check_sides K_check_sides B_check_sides (da_cons (dx_var 0) (da_cons (dx_var 1) (da_cons (dx_var 2) da_nil)))))
  (ds_cons (d_expr (dx_call (k := 3) F_check_indexes takes_cx (by exact hr.mono (by decide)) (by rfl) M_check_indexes K_check_indexes B_check_indexes (da_cons (dx_var 3) (da_cons (dx_w fb (dx_len (by rfl) m_len (dx_var 0))) da_nil))))
  (ds_one (d_ret (dx_call (k := 1) F_partners_of takes_cx (by exact hr.mono (by decide)) (by rfl) M_partners_of K_partners_of B_partners_of (da_cons (dx_w fb (dx_call (k := 1) F_send_rows takes_cx (by exact hr.mono (by decide)) (by rfl) M_send_rows K_send_rows B_send_rows (da_cons (dx_var 0) (da_cons (dx_var 1) (da_cons (dx_var 2) da_nil))))) (da_cons (dx_var 3) da_nil)))))))
abbrev N_arrival_partners : List Str := ["sends", "arrivals", "late", "indexes"]
theorem sc_arrival_partners : FnScope N_arrival_partners ["sends", "arrivals", "late", "indexes"] (defScope s_arrival_partners) := ⟨rfl, rfl, rfl, by decide +kernel, rfl, by decide +kernel, by decide +kernel⟩
def ts_arrival_partners : TDs := (sSeq (sExpr (eCall 3 C_check_sides (aCons (eV 0) (aCons (eV 1) (aCons (eV 2) aNil)))))
  (sSeq (sExpr (eCall 2 C_check_indexes (aCons (eV 3) (aCons (e1 lenV (eV 1)) aNil))))
  (sRet true (eCall 2 C_partners_of (aCons (eCall 3 C_arrival_rows (aCons (eV 0) (aCons (eV 1) (aCons (eV 2) aNil)))) (aCons (eV 3) aNil))))))
def C_arrival_partners : Ctr := fun args R _ => ∃ (S A : List Int) (L : Int) (idx : List Nat), args = [.d (iD S), .d (iD A), .d (.int L), .d (nD idx)] ∧ Sides S A L ∧ idx.length ≤ 50 ∧ (∀ x ∈ idx, x < A.length) ∧ R (.d (nD (prt (aRows S A L) S.length idx)))
theorem at_arrival_partners {S A : List Int} {L : Int} {idx : List Nat} {R : SV → Prop} {RX : Exn → Prop} (v : Sides S A L) (h1 : idx.length ≤ 50) (h2 : ∀ x ∈ idx, x < A.length) (h : R (.d (nD (prt (aRows S A L) S.length idx)))) : C_arrival_partners [.d (iD S), .d (iD A), .d (.int L), .d (nD idx)] R RX := ⟨S, A, L, idx, rfl, v, h1, h2, h⟩
theorem ad_arrival_partners : AdOk C_arrival_partners ts_arrival_partners N_arrival_partners 4 := by
  rintro args R RX hl ⟨S, A, L, idx, rfl, v, h1, h2, h⟩
  simp [ts_arrival_partners, startD]
  refine at_check_sides v ?_
  simp [iD]
  refine at_check_indexes h2 ?_
  refine at_arrival_rows v ?_
  simp
  exact at_partners_of (aRows_ok v) h1 (by simpa [aRows] using h2) h
theorem h_arrival_partners (T : Tx K mg) : Has P w K mg base (LK K) "arrival_partners" 5 ["sends", "arrivals", "late", "indexes"] C_arrival_partners := by
  obtain ⟨_, F_partners_of, B_partners_of, M_partners_of, K_partners_of⟩ := h_partners_of (P := P) (w := w) (base := base) T
  obtain ⟨_, F_arrival_rows, B_arrival_rows, M_arrival_rows, K_arrival_rows⟩ := h_arrival_rows (P := P) (w := w) (base := base) T
  obtain ⟨_, F_check_indexes, B_check_indexes, M_check_indexes, K_check_indexes⟩ := h_check_indexes (P := P) (w := w) (base := base) T
  obtain ⟨_, F_check_sides, B_check_sides, M_check_sides, K_check_sides⟩ := h_check_sides (P := P) (w := w) (base := base) T
  have m_len : mg "len" = none := T.fr "len" (by decide)
  obtain ⟨fd, FD⟩ := T.d_arrival_partners
  refine ⟨fd, ?_, FD.bindsN fun _ _ _ _ _ _ us hl => match us, hl with | [_, _, _, _], _ => rfl, T.g_arrival_partners, FD.kp⟩
  refine fn_ok (ts := ts_arrival_partners) FD sc_arrival_partners (fun cdv A outer s H E hr => ?_) ad_arrival_partners
  have sc := sc_arrival_partners
  exact (ds_cons (d_expr (dx_call (k := 4) F_check_sides takes_cx (by exact hr.mono (by decide)) (by rfl) M_check_sides K_check_sides B_check_sides (da_cons (dx_var 0) (da_cons (dx_var 1) (da_cons (dx_var 2) da_nil)))))
  (ds_cons (d_expr (dx_call (k := 3) F_check_indexes takes_cx (by exact hr.mono (by decide)) (by rfl) M_check_indexes K_check_indexes B_check_indexes (da_cons (dx_var 3) (da_cons (dx_w fb (dx_len (by rfl) m_len (dx_var 1))) da_nil))))
  (ds_one (d_ret (dx_call (k := 1) F_partners_of takes_cx (by exact hr.mono (by decide)) (by rfl) M_partners_of K_partners_of B_partners_of (da_cons (dx_w fb (dx_call (k := 1) F_arrival_rows takes_cx (by exact hr.mono (by decide)) (by rfl) M_arrival_rows K_arrival_rows B_arrival_rows (da_cons (dx_var 0) (da_cons (dx_var 1) (da_cons (dx_var 2) da_nil))))) (da_cons (dx_var 3) da_nil)))))))
abbrev N_send_deficit : List Str := ["sends", "arrivals", "late", "indexes"]
theorem sc_send_deficit : FnScope N_send_deficit ["sends", "arrivals", "late", "indexes"] (defScope s_send_deficit) := ⟨rfl, rfl, rfl, by decide +kernel, rfl, by decide +kernel, by decide +kernel⟩
def ts_send_deficit : TDs := (sSeq (sExpr (eCall 3 C_check_sides (aCons (eV 0) (aCons (eV 1) (aCons (eV 2) aNil)))))
  (sSeq (sExpr (eCall 2 C_check_indexes (aCons (eV 3) (aCons (e1 lenV (eV 0)) aNil))))
  (sRet true (eCall 2 C_deficit_of (aCons (eCall 3 C_send_rows (aCons (eV 0) (aCons (eV 1) (aCons (eV 2) aNil)))) (aCons (eV 3) aNil))))))
def C_send_deficit : Ctr := fun args R _ => ∃ (S A : List Int) (L : Int) (idx : List Nat), args = [.d (iD S), .d (iD A), .d (.int L), .d (nD idx)] ∧ Sides S A L ∧ idx.length ≤ 50 ∧ (∀ x ∈ idx, x < S.length) ∧ R (.d (.int (dfc (sRows S A L) A.length idx)))
theorem at_send_deficit {S A : List Int} {L : Int} {idx : List Nat} {R : SV → Prop} {RX : Exn → Prop} (v : Sides S A L) (h1 : idx.length ≤ 50) (h2 : ∀ x ∈ idx, x < S.length) (h : R (.d (.int (dfc (sRows S A L) A.length idx)))) : C_send_deficit [.d (iD S), .d (iD A), .d (.int L), .d (nD idx)] R RX := ⟨S, A, L, idx, rfl, v, h1, h2, h⟩
theorem ad_send_deficit : AdOk C_send_deficit ts_send_deficit N_send_deficit 4 := by
  rintro args R RX hl ⟨S, A, L, idx, rfl, v, h1, h2, h⟩
  simp [ts_send_deficit, startD]
  refine at_check_sides v ?_
  simp [iD]
  refine at_check_indexes h2 ?_
  refine at_send_rows v ?_
  simp
  exact at_deficit_of (sRows_ok v) h1 (by simpa [sRows] using h2) h
theorem h_send_deficit (T : Tx K mg) : Has P w K mg base (LK K) "send_deficit" 5 ["sends", "arrivals", "late", "indexes"] C_send_deficit := by
  obtain ⟨_, F_deficit_of, B_deficit_of, M_deficit_of, K_deficit_of⟩ := h_deficit_of (P := P) (w := w) (base := base) T
  obtain ⟨_, F_send_rows, B_send_rows, M_send_rows, K_send_rows⟩ := h_send_rows (P := P) (w := w) (base := base) T
  obtain ⟨_, F_check_indexes, B_check_indexes, M_check_indexes, K_check_indexes⟩ := h_check_indexes (P := P) (w := w) (base := base) T
  obtain ⟨_, F_check_sides, B_check_sides, M_check_sides, K_check_sides⟩ := h_check_sides (P := P) (w := w) (base := base) T
  have m_len : mg "len" = none := T.fr "len" (by decide)
  obtain ⟨fd, FD⟩ := T.d_send_deficit
  refine ⟨fd, ?_, FD.bindsN fun _ _ _ _ _ _ us hl => match us, hl with | [_, _, _, _], _ => rfl, T.g_send_deficit, FD.kp⟩
  refine fn_ok (ts := ts_send_deficit) FD sc_send_deficit (fun cdv A outer s H E hr => ?_) ad_send_deficit
  have sc := sc_send_deficit
  exact (ds_cons (d_expr (dx_call (k := 4) F_check_sides takes_cx (by exact hr.mono (by decide)) (by rfl) M_check_sides K_check_sides B_check_sides (da_cons (dx_var 0) (da_cons (dx_var 1) (da_cons (dx_var 2) da_nil)))))
  (ds_cons (d_expr (dx_call (k := 3) F_check_indexes takes_cx (by exact hr.mono (by decide)) (by rfl) M_check_indexes K_check_indexes B_check_indexes (da_cons (dx_var 3) (da_cons (dx_w fb (dx_len (by rfl) m_len (dx_var 0))) da_nil))))
  (ds_one (d_ret (dx_call (k := 2) F_deficit_of takes_cx (by exact hr.mono (by decide)) (by rfl) M_deficit_of K_deficit_of B_deficit_of (da_cons (dx_w fb (dx_call (k := 1) F_send_rows takes_cx (by exact hr.mono (by decide)) (by rfl) M_send_rows K_send_rows B_send_rows (da_cons (dx_var 0) (da_cons (dx_var 1) (da_cons (dx_var 2) da_nil))))) (da_cons (dx_var 3) da_nil)))))))
abbrev N_arrival_deficit : List Str := ["sends", "arrivals", "late", "indexes"]
theorem sc_arrival_deficit : FnScope N_arrival_deficit ["sends", "arrivals", "late", "indexes"] (defScope s_arrival_deficit) := ⟨rfl, rfl, rfl, by decide +kernel, rfl, by decide +kernel, by decide +kernel⟩
def ts_arrival_deficit : TDs := (sSeq (sExpr (eCall 3 C_check_sides (aCons (eV 0) (aCons (eV 1) (aCons (eV 2) aNil)))))
  (sSeq (sExpr (eCall 2 C_check_indexes (aCons (eV 3) (aCons (e1 lenV (eV 1)) aNil))))
  (sRet true (eCall 2 C_deficit_of (aCons (eCall 3 C_arrival_rows (aCons (eV 0) (aCons (eV 1) (aCons (eV 2) aNil)))) (aCons (eV 3) aNil))))))
def C_arrival_deficit : Ctr := fun args R _ => ∃ (S A : List Int) (L : Int) (idx : List Nat), args = [.d (iD S), .d (iD A), .d (.int L), .d (nD idx)] ∧ Sides S A L ∧ idx.length ≤ 50 ∧ (∀ x ∈ idx, x < A.length) ∧ R (.d (.int (dfc (aRows S A L) S.length idx)))
theorem at_arrival_deficit {S A : List Int} {L : Int} {idx : List Nat} {R : SV → Prop} {RX : Exn → Prop} (v : Sides S A L) (h1 : idx.length ≤ 50) (h2 : ∀ x ∈ idx, x < A.length) (h : R (.d (.int (dfc (aRows S A L) S.length idx)))) : C_arrival_deficit [.d (iD S), .d (iD A), .d (.int L), .d (nD idx)] R RX := ⟨S, A, L, idx, rfl, v, h1, h2, h⟩
theorem ad_arrival_deficit : AdOk C_arrival_deficit ts_arrival_deficit N_arrival_deficit 4 := by
  rintro args R RX hl ⟨S, A, L, idx, rfl, v, h1, h2, h⟩
  simp [ts_arrival_deficit, startD]
  refine at_check_sides v ?_
  simp [iD]
  refine at_check_indexes h2 ?_
  refine at_arrival_rows v ?_
  simp
  exact at_deficit_of (aRows_ok v) h1 (by simpa [aRows] using h2) h
theorem h_arrival_deficit (T : Tx K mg) : Has P w K mg base (LK K) "arrival_deficit" 5 ["sends", "arrivals", "late", "indexes"] C_arrival_deficit := by
  obtain ⟨_, F_deficit_of, B_deficit_of, M_deficit_of, K_deficit_of⟩ := h_deficit_of (P := P) (w := w) (base := base) T
  obtain ⟨_, F_arrival_rows, B_arrival_rows, M_arrival_rows, K_arrival_rows⟩ := h_arrival_rows (P := P) (w := w) (base := base) T
  obtain ⟨_, F_check_indexes, B_check_indexes, M_check_indexes, K_check_indexes⟩ := h_check_indexes (P := P) (w := w) (base := base) T
  obtain ⟨_, F_check_sides, B_check_sides, M_check_sides, K_check_sides⟩ := h_check_sides (P := P) (w := w) (base := base) T
  have m_len : mg "len" = none := T.fr "len" (by decide)
  obtain ⟨fd, FD⟩ := T.d_arrival_deficit
  refine ⟨fd, ?_, FD.bindsN fun _ _ _ _ _ _ us hl => match us, hl with | [_, _, _, _], _ => rfl, T.g_arrival_deficit, FD.kp⟩
  refine fn_ok (ts := ts_arrival_deficit) FD sc_arrival_deficit (fun cdv A outer s H E hr => ?_) ad_arrival_deficit
  have sc := sc_arrival_deficit
  exact (ds_cons (d_expr (dx_call (k := 4) F_check_sides takes_cx (by exact hr.mono (by decide)) (by rfl) M_check_sides K_check_sides B_check_sides (da_cons (dx_var 0) (da_cons (dx_var 1) (da_cons (dx_var 2) da_nil)))))
  (ds_cons (d_expr (dx_call (k := 3) F_check_indexes takes_cx (by exact hr.mono (by decide)) (by rfl) M_check_indexes K_check_indexes B_check_indexes (da_cons (dx_var 3) (da_cons (dx_w fb (dx_len (by rfl) m_len (dx_var 1))) da_nil))))
  (ds_one (d_ret (dx_call (k := 2) F_deficit_of takes_cx (by exact hr.mono (by decide)) (by rfl) M_deficit_of K_deficit_of B_deficit_of (da_cons (dx_w fb (dx_call (k := 1) F_arrival_rows takes_cx (by exact hr.mono (by decide)) (by rfl) M_arrival_rows K_arrival_rows B_arrival_rows (da_cons (dx_var 0) (da_cons (dx_var 1) (da_cons (dx_var 2) da_nil))))) (da_cons (dx_var 3) da_nil)))))))
abbrev N_is_orphan : List Str := ["rows", "index"]
theorem sc_is_orphan : FnScope N_is_orphan ["rows", "index"] (defScope s_is_orphan) := ⟨rfl, rfl, rfl, by decide +kernel, rfl, by decide +kernel, by decide +kernel⟩
def ts_is_orphan : TDs := (sRet true (eAnd (eCall 3 C_is_int_in (aCons (eV 1) (aCons (eC (.int 0)) (aCons (eB (opD subD) (e1 lenV (eV 0)) (eC (.int 1))) aNil)))) (eB (opD eqD) (eIx (eV 0) (eV 1)) (eTup aNil))))
def orpB (rows : List (List Nat)) (x : PyData) : Bool := match x with
  | .int i => decide (0 ≤ i) && decide (i < rows.length) && (rows.getD i.toNat []).isEmpty
  | _ => false
def C_is_orphan : Ctr := fun args R _ => ∃ (rows : List (List Nat)) (x : PyData), args = [.d (rD rows), .d x] ∧ nolist x = true ∧ R (.d (.bool (orpB rows x)))
theorem at_is_orphan {rows : List (List Nat)} {x : PyData} {R : SV → Prop} {RX : Exn → Prop} (hx : nolist x = true) (h : R (.d (.bool (orpB rows x)))) : C_is_orphan [.d (rD rows), .d x] R RX := ⟨rows, x, rfl, hx, h⟩
theorem ad_is_orphan : AdOk C_is_orphan ts_is_orphan N_is_orphan 2 := by
  rintro args R RX hl ⟨rows, x, rfl, hx, h⟩
  have ok := okD_nol hx
  simp [ts_is_orphan, startD, rD, ok]
  cases x with
  | int i =>
    by_cases c : 0 ≤ i ∧ i < rows.length
    · have hi : i.toNat < rows.length := by omega
      have g := getM (F := nD) hi
      rw [show ((i.toNat : Nat) : Int) = i by omega] at g
      have e : inRD (.int i) 0 ((rows.length : Int) - 1) = true := by simp [inRD, c.1]; omega
      have eg : rows.getD i.toNat [] = rows[i.toNat] := by simp [hi]
      simp only [orpB, c.1, c.2, eg] at h
      simp [e, g, eqD_nilT]
      simpa using h
    · have e : inRD (.int i) 0 ((rows.length : Int) - 1) = false := by
        simp only [inRD]
        rcases Int.lt_or_le i 0 with z | z
        · simp; omega
        · simp; omega
      have e2 : orpB rows (.int i) = false := by
        simp only [orpB]
        rcases Int.lt_or_le i 0 with z | z
        · simp; omega
        · simp; omega
      rw [e2] at h
      simpa [e] using h
  | _ => first
    | (simp [nolist] at hx; done)
    | (simp [inRD, orpB] at h ⊢; exact h)
theorem h_is_orphan (T : Tx K mg) : Has P w K mg base (LK K) "is_orphan" 3 ["rows", "index"] C_is_orphan := by
  obtain ⟨_, F_is_int_in, B_is_int_in, M_is_int_in, K_is_int_in⟩ := h_is_int_in (P := P) (w := w) (base := base) T
  have m_len : mg "len" = none := T.fr "len" (by decide)
  obtain ⟨fd, FD⟩ := T.d_is_orphan
  refine ⟨fd, ?_, FD.bindsN fun _ _ _ _ _ _ us hl => match us, hl with | [_, _], _ => rfl, T.g_is_orphan, FD.kp⟩
  refine fn_ok (ts := ts_is_orphan) FD sc_is_orphan (fun cdv A outer s H E hr => ?_) ad_is_orphan
  have sc := sc_is_orphan
  exact (ds_one (d_ret (dx_and (dx_call (k := 2) F_is_int_in takes_cx (by exact hr.mono (by decide)) (by rfl) M_is_int_in K_is_int_in B_is_int_in (da_cons (dx_var 1) (da_cons (dx_w fb dx_int) (da_cons (dx_w fb (dx_sub (dx_len (by rfl) m_len (dx_var 0)) dx_int)) da_nil)))) (dx_one (dx_eq (by exact hr.units) (dx_w fb (dx_ix (dx_var 0) (dx_var 1))) (dx_tup da_nil))))))
abbrev N_shows_orphan : List Str := ["sends", "arrivals", "late", "index"]
theorem sc_shows_orphan : FnScope N_shows_orphan ["sends", "arrivals", "late", "index"] (defScope s_shows_orphan) := ⟨rfl, rfl, rfl, by decide +kernel, rfl, by decide +kernel, by decide +kernel⟩
def ts_shows_orphan : TDs := (sSeq (sExpr (eCall 3 C_check_sides (aCons (eV 0) (aCons (eV 1) (aCons (eV 2) aNil)))))
  (sRet true (eCall 2 C_is_orphan (aCons (eCall 3 C_arrival_rows (aCons (eV 0) (aCons (eV 1) (aCons (eV 2) aNil)))) (aCons (eV 3) aNil)))))
def C_shows_orphan : Ctr := fun args R _ => ∃ (S A : List Int) (L : Int) (x : PyData), args = [.d (iD S), .d (iD A), .d (.int L), .d x] ∧ Sides S A L ∧ nolist x = true ∧ R (.d (.bool (orpB (aRows S A L) x)))
theorem at_shows_orphan {S A : List Int} {L : Int} {x : PyData} {R : SV → Prop} {RX : Exn → Prop} (v : Sides S A L) (hx : nolist x = true) (h : R (.d (.bool (orpB (aRows S A L) x)))) : C_shows_orphan [.d (iD S), .d (iD A), .d (.int L), .d x] R RX := ⟨S, A, L, x, rfl, v, hx, h⟩
theorem ad_shows_orphan : AdOk C_shows_orphan ts_shows_orphan N_shows_orphan 4 := by
  rintro args R RX hl ⟨S, A, L, x, rfl, v, hx, h⟩
  simp [ts_shows_orphan, startD]
  refine at_check_sides v ?_
  refine at_arrival_rows v ?_
  exact at_is_orphan hx h
theorem h_shows_orphan (T : Tx K mg) : Has P w K mg base (LK K) "shows_orphan" 5 ["sends", "arrivals", "late", "index"] C_shows_orphan := by
  obtain ⟨_, F_is_orphan, B_is_orphan, M_is_orphan, K_is_orphan⟩ := h_is_orphan (P := P) (w := w) (base := base) T
  obtain ⟨_, F_arrival_rows, B_arrival_rows, M_arrival_rows, K_arrival_rows⟩ := h_arrival_rows (P := P) (w := w) (base := base) T
  obtain ⟨_, F_check_sides, B_check_sides, M_check_sides, K_check_sides⟩ := h_check_sides (P := P) (w := w) (base := base) T
  obtain ⟨fd, FD⟩ := T.d_shows_orphan
  refine ⟨fd, ?_, FD.bindsN fun _ _ _ _ _ _ us hl => match us, hl with | [_, _, _, _], _ => rfl, T.g_shows_orphan, FD.kp⟩
  refine fn_ok (ts := ts_shows_orphan) FD sc_shows_orphan (fun cdv A outer s H E hr => ?_) ad_shows_orphan
  have sc := sc_shows_orphan
  exact (ds_cons (d_expr (dx_call (k := 4) F_check_sides takes_cx (by exact hr.mono (by decide)) (by rfl) M_check_sides K_check_sides B_check_sides (da_cons (dx_var 0) (da_cons (dx_var 1) (da_cons (dx_var 2) da_nil)))))
  (ds_one (d_ret (dx_call (k := 3) F_is_orphan takes_cx (by exact hr.mono (by decide)) (by rfl) M_is_orphan K_is_orphan B_is_orphan (da_cons (dx_w fb (dx_call (k := 1) F_arrival_rows takes_cx (by exact hr.mono (by decide)) (by rfl) M_arrival_rows K_arrival_rows B_arrival_rows (da_cons (dx_var 0) (da_cons (dx_var 1) (da_cons (dx_var 2) da_nil))))) (da_cons (dx_var 3) da_nil))))))
abbrev N_shows_lost : List Str := ["sends", "arrivals", "late", "losses", "indexes"]
theorem sc_shows_lost : FnScope N_shows_lost ["sends", "arrivals", "late", "losses", "indexes"] (defScope s_shows_lost) := ⟨rfl, rfl, rfl, by decide +kernel, rfl, by decide +kernel, by decide +kernel⟩
def ts_shows_lost : TDs := (sSeq (sExpr (eCall 3 C_check_sides (aCons (eV 0) (aCons (eV 1) (aCons (eV 2) aNil)))))
  (sSeq (sExpr (eCall 1 C_check_losses (aCons (eV 3) aNil)))
  (sRet true (eCall 3 C_lacks_partners (aCons (eCall 3 C_send_rows (aCons (eV 0) (aCons (eV 1) (aCons (eV 2) aNil)))) (aCons (eV 4) (aCons (eV 3) aNil)))))))
def C_shows_lost : Ctr := fun args R _ => ∃ (S A : List Int) (L X : Int) (x : PyData), args = [.d (iD S), .d (iD A), .d (.int L), .d (.int X), .d x] ∧ Sides S A L ∧ (0 ≤ X ∧ X ≤ 40) ∧ nolist x = true ∧ lenOk x ∧ R (.d (.bool (lack (sRows S A L) A.length x X)))
theorem at_shows_lost {S A : List Int} {L X : Int} {x : PyData} {R : SV → Prop} {RX : Exn → Prop} (v : Sides S A L) (hX : 0 ≤ X ∧ X ≤ 40) (hx : nolist x = true) (hl : lenOk x) (h : R (.d (.bool (lack (sRows S A L) A.length x X)))) : C_shows_lost [.d (iD S), .d (iD A), .d (.int L), .d (.int X), .d x] R RX := ⟨S, A, L, X, x, rfl, v, hX, hx, hl, h⟩
theorem ad_shows_lost : AdOk C_shows_lost ts_shows_lost N_shows_lost 5 := by
  rintro args R RX hl ⟨S, A, L, X, x, rfl, v, hX, hx, hlen, h⟩
  simp [ts_shows_lost, startD]
  refine at_check_sides v ?_
  refine at_check_losses hX.1 hX.2 ?_
  refine at_send_rows v ?_
  exact at_lacks_partners (sRows_ok v) hx hlen h
theorem h_shows_lost (T : Tx K mg) : Has P w K mg base (LK K) "shows_lost" 5 ["sends", "arrivals", "late", "losses", "indexes"] C_shows_lost := by
  obtain ⟨_, F_lacks_partners, B_lacks_partners, M_lacks_partners, K_lacks_partners⟩ := h_lacks_partners (P := P) (w := w) (base := base) T
  obtain ⟨_, F_send_rows, B_send_rows, M_send_rows, K_send_rows⟩ := h_send_rows (P := P) (w := w) (base := base) T
  obtain ⟨_, F_check_losses, B_check_losses, M_check_losses, K_check_losses⟩ := h_check_losses (P := P) (w := w) (base := base) T
  obtain ⟨_, F_check_sides, B_check_sides, M_check_sides, K_check_sides⟩ := h_check_sides (P := P) (w := w) (base := base) T
  obtain ⟨fd, FD⟩ := T.d_shows_lost
  refine ⟨fd, ?_, FD.bindsN fun _ _ _ _ _ _ us hl => match us, hl with | [_, _, _, _, _], _ => rfl, T.g_shows_lost, FD.kp⟩
  refine fn_ok (ts := ts_shows_lost) FD sc_shows_lost (fun cdv A outer s H E hr => ?_) ad_shows_lost
  have sc := sc_shows_lost
  exact (ds_cons (d_expr (dx_call (k := 4) F_check_sides takes_cx (by exact hr.mono (by decide)) (by rfl) M_check_sides K_check_sides B_check_sides (da_cons (dx_var 0) (da_cons (dx_var 1) (da_cons (dx_var 2) da_nil)))))
  (ds_cons (d_expr (dx_call (k := 3) F_check_losses takes_cx (by exact hr.mono (by decide)) (by rfl) M_check_losses K_check_losses B_check_losses (da_cons (dx_var 3) da_nil)))
  (ds_one (d_ret (dx_call (k := 4) F_lacks_partners takes_cx (by exact hr.mono (by decide)) (by rfl) M_lacks_partners K_lacks_partners B_lacks_partners (da_cons (dx_w fb (dx_call (k := 1) F_send_rows takes_cx (by exact hr.mono (by decide)) (by rfl) M_send_rows K_send_rows B_send_rows (da_cons (dx_var 0) (da_cons (dx_var 1) (da_cons (dx_var 2) da_nil))))) (da_cons (dx_var 4) (da_cons (dx_var 3) da_nil))))))))
abbrev N_shows_extra : List Str := ["sends", "arrivals", "late", "duplicates", "indexes"]
theorem sc_shows_extra : FnScope N_shows_extra ["sends", "arrivals", "late", "duplicates", "indexes"] (defScope s_shows_extra) := ⟨rfl, rfl, rfl, by decide +kernel, rfl, by decide +kernel, by decide +kernel⟩
def ts_shows_extra : TDs := (sSeq (sExpr (eCall 3 C_check_sides (aCons (eV 0) (aCons (eV 1) (aCons (eV 2) aNil)))))
  (sSeq (sExpr (eCall 1 C_check_duplicates (aCons (eV 3) aNil)))
  (sRet true (eCall 3 C_lacks_partners (aCons (eCall 3 C_arrival_rows (aCons (eV 0) (aCons (eV 1) (aCons (eV 2) aNil)))) (aCons (eV 4) (aCons (eV 3) aNil)))))))
def C_shows_extra : Ctr := fun args R _ => ∃ (S A : List Int) (L X : Int) (x : PyData), args = [.d (iD S), .d (iD A), .d (.int L), .d (.int X), .d x] ∧ Sides S A L ∧ (0 ≤ X ∧ X ≤ 40) ∧ nolist x = true ∧ lenOk x ∧ R (.d (.bool (lack (aRows S A L) S.length x X)))
theorem at_shows_extra {S A : List Int} {L X : Int} {x : PyData} {R : SV → Prop} {RX : Exn → Prop} (v : Sides S A L) (hX : 0 ≤ X ∧ X ≤ 40) (hx : nolist x = true) (hl : lenOk x) (h : R (.d (.bool (lack (aRows S A L) S.length x X)))) : C_shows_extra [.d (iD S), .d (iD A), .d (.int L), .d (.int X), .d x] R RX := ⟨S, A, L, X, x, rfl, v, hX, hx, hl, h⟩
theorem ad_shows_extra : AdOk C_shows_extra ts_shows_extra N_shows_extra 5 := by
  rintro args R RX hl ⟨S, A, L, X, x, rfl, v, hX, hx, hlen, h⟩
  simp [ts_shows_extra, startD]
  refine at_check_sides v ?_
  refine at_check_duplicates hX.1 hX.2 ?_
  refine at_arrival_rows v ?_
  exact at_lacks_partners (aRows_ok v) hx hlen h
theorem h_shows_extra (T : Tx K mg) : Has P w K mg base (LK K) "shows_extra" 5 ["sends", "arrivals", "late", "duplicates", "indexes"] C_shows_extra := by
  obtain ⟨_, F_lacks_partners, B_lacks_partners, M_lacks_partners, K_lacks_partners⟩ := h_lacks_partners (P := P) (w := w) (base := base) T
  obtain ⟨_, F_arrival_rows, B_arrival_rows, M_arrival_rows, K_arrival_rows⟩ := h_arrival_rows (P := P) (w := w) (base := base) T
  obtain ⟨_, F_check_duplicates, B_check_duplicates, M_check_duplicates, K_check_duplicates⟩ := h_check_duplicates (P := P) (w := w) (base := base) T
  obtain ⟨_, F_check_sides, B_check_sides, M_check_sides, K_check_sides⟩ := h_check_sides (P := P) (w := w) (base := base) T
  obtain ⟨fd, FD⟩ := T.d_shows_extra
  refine ⟨fd, ?_, FD.bindsN fun _ _ _ _ _ _ us hl => match us, hl with | [_, _, _, _, _], _ => rfl, T.g_shows_extra, FD.kp⟩
  refine fn_ok (ts := ts_shows_extra) FD sc_shows_extra (fun cdv A outer s H E hr => ?_) ad_shows_extra
  have sc := sc_shows_extra
  exact (ds_cons (d_expr (dx_call (k := 4) F_check_sides takes_cx (by exact hr.mono (by decide)) (by rfl) M_check_sides K_check_sides B_check_sides (da_cons (dx_var 0) (da_cons (dx_var 1) (da_cons (dx_var 2) da_nil)))))
  (ds_cons (d_expr (dx_call (k := 3) F_check_duplicates takes_cx (by exact hr.mono (by decide)) (by rfl) M_check_duplicates K_check_duplicates B_check_duplicates (da_cons (dx_var 3) da_nil)))
  (ds_one (d_ret (dx_call (k := 4) F_lacks_partners takes_cx (by exact hr.mono (by decide)) (by rfl) M_lacks_partners K_lacks_partners B_lacks_partners (da_cons (dx_w fb (dx_call (k := 1) F_arrival_rows takes_cx (by exact hr.mono (by decide)) (by rfl) M_arrival_rows K_arrival_rows B_arrival_rows (da_cons (dx_var 0) (da_cons (dx_var 1) (da_cons (dx_var 2) da_nil))))) (da_cons (dx_var 4) (da_cons (dx_var 3) da_nil))))))))
abbrev N_shows_account : List Str := ["sends", "arrivals", "late", "losses", "duplicates", "paper", "word", "told"]
theorem sc_shows_account : FnScope N_shows_account ["sends", "arrivals", "late", "losses", "duplicates", "paper"] (defScope s_shows_account) := ⟨rfl, rfl, rfl, by decide +kernel, rfl, by decide +kernel, by decide +kernel⟩
def ts_shows_account : TDs := (sSeq (sExpr (eCall 3 C_check_sides (aCons (eV 0) (aCons (eV 1) (aCons (eV 2) aNil)))))
  (sSeq (sExpr (eCall 1 C_check_losses (aCons (eV 3) aNil)))
  (sSeq (sExpr (eCall 1 C_check_duplicates (aCons (eV 4) aNil)))
  (sSeq (sIf (tB2 (opD neD) (e1 lenV (eV 5)) (eC (.int 2)))
  (sRet true (eC (.bool false)))
  sNil)
  (sSeq (sUnp fb (eV 5) (gT 2 (gsCons (gN 6) (gsCons (gN 7) gsNil))))
  (sSeq (sIf (tB2 (opD eqD) (eV 6) (eC (.str "orphan")))
  (sRet true (eCall 4 C_shows_orphan (aCons (eV 0) (aCons (eV 1) (aCons (eV 2) (aCons (eV 7) aNil))))))
  sNil)
  (sSeq (sIf (tB2 (opD eqD) (eV 6) (eC (.str "lost")))
  (sRet true (eCall 5 C_shows_lost (aCons (eV 0) (aCons (eV 1) (aCons (eV 2) (aCons (eV 3) (aCons (eV 7) aNil)))))))
  sNil)
  (sSeq (sIf (tB2 (opD eqD) (eV 6) (eC (.str "extra")))
  (sRet true (eCall 5 C_shows_extra (aCons (eV 0) (aCons (eV 1) (aCons (eV 2) (aCons (eV 4) (aCons (eV 7) aNil)))))))
  sNil)
  (sSeq (sIf (tB2 (opD eqD) (eV 6) (eC (.str "matched")))
  (sRet true (eCall 6 C_shows_matched (aCons (eV 0) (aCons (eV 1) (aCons (eV 2) (aCons (eV 3) (aCons (eV 4) (aCons (eV 7) aNil))))))))
  sNil)
  (sRet true (eC (.bool false))))))))))))
noncomputable def shwA (S A : List Int) (L X Y : Int) (ds : List PyData) : Bool := match ds with
  | [.str w, t] => if w = "orphan" then orpB (aRows S A L) t else if w = "lost" then lack (sRows S A L) A.length t X else if w = "extra" then lack (aRows S A L) S.length t Y else if w = "matched" then shwM S A L X Y t else false
  | _ => false
def papOk (ds : List PyData) : Prop := match ds with
  | [.str _, t] => lenOk t
  | [.none, _] => True
  | [_, _] => False
  | _ => True
def C_shows_account : Ctr := fun args R _ => ∃ (S A : List Int) (L X Y : Int) (ds : List PyData), args = [.d (iD S), .d (iD A), .d (.int L), .d (.int X), .d (.int Y), .d (.tuple ds)] ∧ Sides S A L ∧ (0 ≤ X ∧ X ≤ 40) ∧ (0 ≤ Y ∧ Y ≤ 40) ∧ nolistA ds = true ∧ papOk ds ∧ R (.d (.bool (shwA S A L X Y ds)))
theorem at_shows_account {S A : List Int} {L X Y : Int} {ds : List PyData} {R : SV → Prop} {RX : Exn → Prop} (v : Sides S A L) (hX : 0 ≤ X ∧ X ≤ 40) (hY : 0 ≤ Y ∧ Y ≤ 40) (hx : nolistA ds = true) (hp : papOk ds) (h : R (.d (.bool (shwA S A L X Y ds)))) : C_shows_account [.d (iD S), .d (iD A), .d (.int L), .d (.int X), .d (.int Y), .d (.tuple ds)] R RX := ⟨S, A, L, X, Y, ds, rfl, v, hX, hY, hx, hp, h⟩
theorem ad_shows_account : AdOk C_shows_account ts_shows_account N_shows_account 6 := by
  rintro args R RX hl ⟨S, A, L, X, Y, ds, rfl, v, hX, hY, hx, hp, h⟩
  simp [ts_shows_account, startD]
  refine at_check_sides v ?_
  refine at_check_losses hX.1 hX.2 ?_
  refine at_check_duplicates hY.1 hY.2 ?_
  by_cases h2 : ds.length = 2
  · obtain ⟨w, t, rfl⟩ : ∃ w t, ds = [w, t] := by
      rcases ds with _ | ⟨t, _ | ⟨w, _ | ⟨_, _⟩⟩⟩ <;> simp at h2
      exact ⟨t, w, rfl⟩
    simp at hx
    obtain ⟨hw, ht⟩ := hx
    cases w with
    | str w =>
      simp [papOk] at hp
      simp [shwA] at h
      simp [hw, ht]
      by_cases c1 : w = "orphan"
      · simp [c1] at h ⊢
        exact at_shows_orphan v ht h
      · simp [c1] at h ⊢
        by_cases c2 : w = "lost"
        · simp [c2] at h ⊢
          exact at_shows_lost v hX ht hp h
        · simp [c2] at h ⊢
          by_cases c3 : w = "extra"
          · simp [c3] at h ⊢
            exact at_shows_extra v hY ht hp h
          · simp [c3] at h ⊢
            by_cases c4 : w = "matched"
            · simp [c4] at h ⊢
              exact at_shows_matched v hX hY ht h
            · simp [c4] at h ⊢
              exact h
    | none =>
      have e : ∀ (u : Str) (R : SV → Prop), eqD .none (.str u) R = R (.d (.bool false)) := fun u R => by simp [eqD, eqOk, scalD, PyData.eqv]
      simp [ht, e]
      simpa [shwA] using h
    | _ => simp [papOk] at hp
  · have e : ¬ ((ds.length : Int) = 2) := by omega
    have : shwA S A L X Y ds = false := by
      rcases ds with _ | ⟨t, _ | ⟨w, _ | ⟨_, _⟩⟩⟩ <;> first | rfl | (simp at h2; done) | (cases t <;> rfl)
    rw [this] at h
    simpa [e] using h
theorem h_shows_account (T : Tx K mg) : Has P w K mg base (LK K) "shows_account" 6 ["sends", "arrivals", "late", "losses", "duplicates", "paper"] C_shows_account := by
  obtain ⟨_, F_shows_matched, B_shows_matched, M_shows_matched, K_shows_matched⟩ := h_shows_matched (P := P) (w := w) (base := base) T
  obtain ⟨_, F_shows_extra, B_shows_extra, M_shows_extra, K_shows_extra⟩ := h_shows_extra (P := P) (w := w) (base := base) T
  obtain ⟨_, F_shows_lost, B_shows_lost, M_shows_lost, K_shows_lost⟩ := h_shows_lost (P := P) (w := w) (base := base) T
  obtain ⟨_, F_shows_orphan, B_shows_orphan, M_shows_orphan, K_shows_orphan⟩ := h_shows_orphan (P := P) (w := w) (base := base) T
  obtain ⟨_, F_check_duplicates, B_check_duplicates, M_check_duplicates, K_check_duplicates⟩ := h_check_duplicates (P := P) (w := w) (base := base) T
  obtain ⟨_, F_check_losses, B_check_losses, M_check_losses, K_check_losses⟩ := h_check_losses (P := P) (w := w) (base := base) T
  obtain ⟨_, F_check_sides, B_check_sides, M_check_sides, K_check_sides⟩ := h_check_sides (P := P) (w := w) (base := base) T
  have m_len : mg "len" = none := T.fr "len" (by decide)
  obtain ⟨fd, FD⟩ := T.d_shows_account
  refine ⟨fd, ?_, FD.bindsN fun _ _ _ _ _ _ us hl => match us, hl with | [_, _, _, _, _, _], _ => rfl, T.g_shows_account, FD.kp⟩
  refine fn_ok (ts := ts_shows_account) FD sc_shows_account (fun cdv A outer s H E hr => ?_) ad_shows_account
  have sc := sc_shows_account
  exact (ds_cons (d_expr (dx_call (k := 4) F_check_sides takes_cx (by exact hr.mono (by decide)) (by rfl) M_check_sides K_check_sides B_check_sides (da_cons (dx_var 0) (da_cons (dx_var 1) (da_cons (dx_var 2) da_nil)))))
  (ds_cons (d_expr (dx_call (k := 3) F_check_losses takes_cx (by exact hr.mono (by decide)) (by rfl) M_check_losses K_check_losses B_check_losses (da_cons (dx_var 3) da_nil)))
  (ds_cons (d_expr (dx_call (k := 3) F_check_duplicates takes_cx (by exact hr.mono (by decide)) (by rfl) M_check_duplicates K_check_duplicates B_check_duplicates (da_cons (dx_var 4) da_nil)))
  (ds_cons (d_if (dt_ne (by exact hr.units) (dx_len (by rfl) m_len (dx_var 5)) dx_int)
  (ds_one (d_ret dx_bool))
  ds_nil)
  (ds_cons (d_unpack (dx_var 5) (dg_tup (by rfl) (dgs_name 6 sc.nd (dgs_name 7 sc.nd dgs_nil))))
  (ds_cons (d_if (dt_eq (by exact hr.units) (dx_var 6) dx_str)
  (ds_one (d_ret (dx_call (k := 5) F_shows_orphan takes_cx (by exact hr.mono (by decide)) (by rfl) M_shows_orphan K_shows_orphan B_shows_orphan (da_cons (dx_var 0) (da_cons (dx_var 1) (da_cons (dx_var 2) (da_cons (dx_var 7) da_nil)))))))
  ds_nil)
  (ds_cons (d_if (dt_eq (by exact hr.units) (dx_var 6) dx_str)
  (ds_one (d_ret (dx_call (k := 5) F_shows_lost takes_cx (by exact hr.mono (by decide)) (by rfl) M_shows_lost K_shows_lost B_shows_lost (da_cons (dx_var 0) (da_cons (dx_var 1) (da_cons (dx_var 2) (da_cons (dx_var 3) (da_cons (dx_var 7) da_nil))))))))
  ds_nil)
  (ds_cons (d_if (dt_eq (by exact hr.units) (dx_var 6) dx_str)
  (ds_one (d_ret (dx_call (k := 5) F_shows_extra takes_cx (by exact hr.mono (by decide)) (by rfl) M_shows_extra K_shows_extra B_shows_extra (da_cons (dx_var 0) (da_cons (dx_var 1) (da_cons (dx_var 2) (da_cons (dx_var 4) (da_cons (dx_var 7) da_nil))))))))
  ds_nil)
  (ds_cons (d_if (dt_eq (by exact hr.units) (dx_var 6) dx_str)
  (ds_one (d_ret (dx_call (k := 5) F_shows_matched takes_cx (by exact hr.mono (by decide)) (by rfl) M_shows_matched K_shows_matched B_shows_matched (da_cons (dx_var 0) (da_cons (dx_var 1) (da_cons (dx_var 2) (da_cons (dx_var 3) (da_cons (dx_var 4) (da_cons (dx_var 7) da_nil)))))))))
  ds_nil)
  (ds_one (d_ret dx_bool)))))))))))
abbrev N__law_source : List Str := ["script", "k", "cell"]
theorem sc__law_source : FnScope N__law_source ["script", "k"] (defScope s__law_source) := ⟨rfl, rfl, rfl, by decide +kernel, rfl, by decide +kernel, by decide +kernel⟩
def ts__law_source : TDs := (sSeq (sSet ff 2 (eC (.int 0)))
  (sSeq (sIf (tB2 (opD (cmpI fun i j => decide (i < j))) (eV 1) (e1 lenV (eV 0)))
  (sSet fb 2 (eIx (eV 0) (eV 1)))
  sNil)
  (sRet true (eLst (aCons (eB (opD (mmD fun i j => max i j)) (eC (.int 0)) (eB (opD subD) (eV 2) (eB (opD powD) (eC (.int 10)) (eC (.int 18))))) (aCons (eB addV (eB (opD mulD) (eV 2) (eC (.int 64))) (eV 1)) (aCons (eC (.int 0)) aNil)))))))
def C__law_source : Ctr := fun args R _ => ∃ (ns : List Int) (k : Nat), args = [.d (.list (ns.map .int)), .d (.int k)] ∧ ∀ a b c : Int, R (.own [.int a, .int b, .int c])
theorem ad__law_source : AdOk C__law_source ts__law_source N__law_source 2 := by
  rintro args R RX hl ⟨ns, k, rfl, h⟩
  have at' : ∀ hk : k < ns.length, atI (ns.map PyData.int) (k : Int) = some (.int ns[k]) := fun hk => by
    rw [atI_at]; simp [hk]
  have p : CPow 10 18 := ⟨by omega, by omega, by decide⟩
  by_cases hk : k < ns.length
  · simp [ts__law_source, startD, hk, at' hk, p, powD]
    refine ⟨?_, h _ _ _⟩
    exact .inr ⟨by omega, by omega⟩
  · simp [ts__law_source, startD, hk, p, powD]
    refine ⟨?_, h _ _ _⟩
    exact .inr ⟨by omega, by omega⟩
theorem h__law_source (T : Tx K mg) : Has P w K mg base (LK K) "_law_source" 1 ["script", "k"] C__law_source := by
  have m_max : mg "max" = none := T.fr "max" (by decide)
  have m_len : mg "len" = none := T.fr "len" (by decide)
  obtain ⟨fd, FD⟩ := T.d__law_source
  refine ⟨fd, ?_, FD.bindsN fun _ _ _ _ _ _ us hl => match us, hl with | [_, _], _ => rfl, T.g__law_source, FD.kp⟩
  refine fn_ok (ts := ts__law_source) FD sc__law_source (fun cdv A outer s H E hr => ?_) ad__law_source
  have sc := sc__law_source
  exact (ds_cons (d_set 2 sc.nd dx_int)
  (ds_cons (d_if (dt_lt (dx_var 1) (dx_len (by rfl) m_len (dx_var 0)))
  (ds_one (d_set 2 sc.nd (dx_w fb (dx_ix (dx_var 0) (dx_var 1)))))
  ds_nil)
  (ds_one (d_ret (dx_lst (da_cons (dx_max2 (by rfl) (by rfl) m_max dx_int (dx_sub (dx_var 2) (dx_pow dx_int dx_int))) (da_cons (dx_add (dx_mul (dx_var 2) dx_int) (dx_var 1)) (da_cons dx_int da_nil))))))))
abbrev N__law_take : List Str := ["source", "size", "drawn", "first", "second", "third"]
theorem sc__law_take : FnScope N__law_take ["source", "size"] (defScope s__law_take) := ⟨rfl, rfl, rfl, by decide +kernel, rfl, by decide +kernel, by decide +kernel⟩
def ts__law_take : TDs := (sSeq (sPutI 0 (eB addV (eIx (eV 0) (eC (.int 2))) (eC (.int 1))) (eC (.int 2)))
  (sSeq (sIf (tB2 (opD (cmpI fun i j => decide (j < i))) (eIx (eV 0) (eC (.int 0))) (eC (.int 0)))
  (sSeq (sSet ff 2 (eB (opD modD) (e1 (un1 intD) (eIx (eV 0) (eC (.int 0)))) (eV 1)))
  (sSeq (sPutI 0 (eB (opD fdivD) (eIx (eV 0) (eC (.int 0))) (eV 1)) (eC (.int 0)))
  (sRet false (eV 2))))
  sNil)
  (sSeq (sSet ff 3 (eB (opD modD) (e1 (un1 intD) (eB addV (eB addV (eB (opD mulD) (eIx (eV 0) (eC (.int 1))) (eC (.int 48271))) (eB (opD mulD) (eIx (eV 0) (eC (.int 2))) (eC (.int 69621)))) (eC (.int 7)))) (eC (.int 2147483647))))
  (sSeq (sSet ff 4 (eB (opD modD) (e1 (un1 intD) (eB addV (eB (opD mulD) (eV 3) (eV 3)) (eB (opD mulD) (eIx (eV 0) (eC (.int 2))) (eC (.int 40692))))) (eC (.int 2147483399))))
  (sSeq (sSet ff 5 (eB (opD modD) (e1 (un1 intD) (eB addV (eB (opD mulD) (eV 4) (eV 4)) (eV 3))) (eC (.int 2147483629))))
  (sRet true (eB (opD modD) (e1 (un1 intD) (eB (opD fdivD) (eV 5) (eC (.int 8)))) (eV 1))))))))
def C__law_take : Ctr := fun args R _ => ∃ size : Int, args = [.tok, .d (.int size)] ∧ 1 ≤ size ∧ size < 1073741824 ∧ ∀ k : Nat, (k : Int) < size → R (.d (.int k))
@[simp] theorem at__law_take (size : Int) (R : SV → Prop) (RX : Exn → Prop) : C__law_take [.tok, .d (.int size)] R RX ↔ (1 ≤ size ∧ size < 1073741824 ∧ ∀ k : Nat, (k : Int) < size → R (.d (.int k))) := ⟨fun ⟨_, e, h⟩ => by cases e; exact h, fun h => ⟨_, rfl, h⟩⟩
theorem three {ns : List Int} (h : okN ns) : ∃ a b c, ns = [a, b, c] := by
  unfold okN at h
  rcases ns with _ | ⟨a, _ | ⟨b, _ | ⟨c, _ | ⟨_, _⟩⟩⟩⟩ <;> simp at h
  exact ⟨a, b, c, rfl⟩
theorem modK {x m : Int} (h : 0 < m) : ∃ k : Nat, x % m = k ∧ (k : Int) < m := ⟨(x % m).toNat, by have := Int.emod_nonneg x (show m ≠ 0 by omega); omega, by have := Int.emod_nonneg x (show m ≠ 0 by omega); have := Int.emod_lt_of_pos x h; omega⟩
theorem ad__law_take : AdT okN C__law_take ts__law_take N__law_take := by
  rintro svs R RX ⟨size, rfl, s1, s2, h⟩
  refine ⟨_, rfl, by simp, fun b ns hn => ?_⟩
  obtain ⟨x, y, z, rfl⟩ := three hn
  have fin : ∀ (x' : Int) (k : Nat) (o : List (Option SV)), (k : Int) < size → finT okN b (some (.tk b (intsD [x', y, z + 1])) :: o) (.d (.int k)) R := fun x' k o hk => ⟨_, rfl, rfl, ⟨_, rfl, rfl⟩, h k hk⟩
  have fin2 : ∀ (x' v : Int) (o : List (Option SV)), finT okN b (some (.tk b (intsD [x', y, z + 1])) :: o) (.d (.int (v % size))) R := fun x' v o => by
    obtain ⟨k, e, hk⟩ := modK (x := v) (m := size) (by omega)
    rw [e]; exact fin x' k o hk
  have size0 : 0 < size := by omega
  have size64 : CMul 0 0 := .inl ⟨by omega, by omega⟩
  have cm : ∀ i j : Int, -100000 < j → j < 100000 → CMul i j := fun i j h1 h2 => .inr ⟨by omega, by omega⟩
  have cf : ∀ i j : Int, 0 ≤ j → j < 3000000000 → CMul i j := fun i j h1 h2 => .inr ⟨by omega, by omega⟩
  have c1 := cm y 48271 (by omega) (by omega)
  have c2 := cm (z + 1) 69621 (by omega) (by omega)
  have c3 := cm (z + 1) 40692 (by omega) (by omega)
  have cd : CDiv x size := ⟨size0, s2⟩
  simp [ts__law_take, startD, intsD, ixN, atI, size0, c1, c2, c3, cd]
  by_cases hx : 0 < x
  · simp [hx]
    exact fin2 _ _ _
  · simp [hx]
    have b1 := Int.emod_nonneg (y * 48271 + (z + 1) * 69621 + 7) (show (2147483647 : Int) ≠ 0 by omega)
    have b2 := Int.emod_lt_of_pos (y * 48271 + (z + 1) * 69621 + 7) (show (0 : Int) < 2147483647 by omega)
    generalize (y * 48271 + (z + 1) * 69621 + 7) % 2147483647 = p at b1 b2 ⊢
    have b3 := Int.emod_nonneg (p * p + (z + 1) * 40692) (show (2147483399 : Int) ≠ 0 by omega)
    have b4 := Int.emod_lt_of_pos (p * p + (z + 1) * 40692) (show (0 : Int) < 2147483399 by omega)
    generalize (p * p + (z + 1) * 40692) % 2147483399 = q at b3 b4 ⊢
    refine ⟨cf _ _ b1 (by omega), cf _ _ b3 (by omega), ⟨by omega, by omega⟩, ?_⟩
    exact fin2 _ _ _
theorem h__law_take (T : Tx K mg) : Has P w K mg base (LK K) "_law_take" 1 ["source", "size"] C__law_take := by
  have m_int : mg "int" = none := T.fr "int" (by decide)
  obtain ⟨fd, FD⟩ := T.d__law_take
  refine ⟨fd, ?_, FD.bindsN fun _ _ _ _ _ _ us hl => match us, hl with | [_, _], _ => rfl, T.g__law_take, FD.kp⟩
  refine fnT_ok (ts := ts__law_take) lkI FD sc__law_take (fun cdv A outer s H E hr => ?_) ad__law_take
  have sc := sc__law_take
  exact (ds_cons (d_putI 0 (dx_add (dx_w fb (dx_ix (dx_var 0) dx_int)) dx_int) dx_int)
  (ds_cons (d_if (dt_gt (dx_w fb (dx_ix (dx_var 0) dx_int)) dx_int)
  (ds_cons (d_set 2 sc.nd (dx_mod (dx_intc (by rfl) m_int (dx_w fb (dx_ix (dx_var 0) dx_int))) (dx_var 1)))
  (ds_cons (d_putI 0 (dx_fdiv (dx_w fb (dx_ix (dx_var 0) dx_int)) (dx_var 1)) dx_int)
  (ds_one (d_ret (dx_var 2)))))
  ds_nil)
  (ds_cons (d_set 3 sc.nd (dx_mod (dx_intc (by rfl) m_int (dx_add (dx_add (dx_mul (dx_w fb (dx_ix (dx_var 0) dx_int)) dx_int) (dx_mul (dx_w fb (dx_ix (dx_var 0) dx_int)) dx_int)) dx_int)) dx_int))
  (ds_cons (d_set 4 sc.nd (dx_mod (dx_intc (by rfl) m_int (dx_add (dx_mul (dx_var 3) (dx_var 3)) (dx_mul (dx_w fb (dx_ix (dx_var 0) dx_int)) dx_int))) dx_int))
  (ds_cons (d_set 5 sc.nd (dx_mod (dx_intc (by rfl) m_int (dx_add (dx_mul (dx_var 4) (dx_var 4)) (dx_var 3))) dx_int))
  (ds_one (d_ret (dx_mod (dx_intc (by rfl) m_int (dx_fdiv (dx_var 5) dx_int)) (dx_var 1)))))))))
abbrev N__law_is_int : List Str := ["value"]
theorem sc__law_is_int : FnScope N__law_is_int ["value"] (defScope s__law_is_int) := ⟨rfl, rfl, rfl, by decide +kernel, rfl, by decide +kernel, by decide +kernel⟩
def ts__law_is_int : TDs := (sRet true (eAnd (eIsi isIntS (eV 0)) (eNot (eIsi isBoolS (eV 0)))))
def C__law_is_int : Ctr := fun args R _ => ∃ x, args = [.d x] ∧ okD x = true ∧ R (.d (.bool (isIntD x)))
theorem ad__law_is_int : AdOk C__law_is_int ts__law_is_int N__law_is_int 1 := by
  rintro args R RX hl ⟨x, rfl, h1, h2⟩
  cases x <;> simp [okD] at h1 <;> simp [ts__law_is_int, startD, isD, isIntS, isBoolS, wB, isIntD] at h2 ⊢ <;> exact h2
@[simp] theorem at__law_is_int (x : PyData) (R : SV → Prop) (RX : Exn → Prop) : C__law_is_int [.d x] R RX ↔ (okD x = true ∧ R (.d (.bool (isIntD x)))) := ⟨fun ⟨_, e, h⟩ => by cases e; exact h, fun h => ⟨_, rfl, h⟩⟩
theorem h__law_is_int (T : Tx K mg) : Has P w K mg base (LK K) "_law_is_int" 1 ["value"] C__law_is_int := by
  have m_int : mg "int" = none := T.fr "int" (by decide)
  have m_isinstance : mg "isinstance" = none := T.fr "isinstance" (by decide)
  have m_bool : mg "bool" = none := T.fr "bool" (by decide)
  obtain ⟨fd, FD⟩ := T.d__law_is_int
  refine ⟨fd, ?_, FD.bindsN fun _ _ _ _ _ _ us hl => match us, hl with | [_], _ => rfl, T.g__law_is_int, FD.kp⟩
  refine fn_ok (ts := ts__law_is_int) FD sc__law_is_int (fun cdv A outer s H E hr => ?_) ad__law_is_int
  have sc := sc__law_is_int
  exact (ds_one (d_ret (dx_and (dx_isi kit_int (by rfl) m_int (by decide +kernel) (by rfl) m_isinstance (by decide +kernel) (dx_var 0)) (dx_one (dx_not (dx_isi kit_bool (by rfl) m_bool (by decide +kernel) (by rfl) m_isinstance (by decide +kernel) (dx_var 0)))))))
abbrev N__law_same : List Str := ["told", "due", "k"]
theorem sc__law_same : FnScope N__law_same ["told", "due"] (defScope s__law_same) := ⟨rfl, rfl, rfl, by decide +kernel, rfl, by decide +kernel, by decide +kernel⟩
def ts__law_same (C__law_same : Ctr) : TDs := (sSeq (sIf (tOf (eIsi isTupS (eV 1)))
  (sSeq (sIf (tOrD (tNotD (tOf (eIsi isTupS (eV 0)))) (tB2 (opD neD) (e1 lenV (eV 0)) (e1 lenV (eV 1))))
  (sRet true (eC (.bool false)))
  sNil)
  (sSeq (sFor (iRng1D (e1 lenV (eV 1))) (gN 2)
  (sIf (tNotD (tOf (eCall 2 C__law_same (aCons (eIx (eV 0) (eV 2)) (aCons (eIx (eV 1) (eV 2)) aNil)))))
  (sRet true (eC (.bool false)))
  sNil))
  (sRet true (eC (.bool true)))))
  sNil)
  (sSeq (sIf (tOf (eIsi isBoolS (eV 1)))
  (sRet true (eAnd (eIsi isBoolS (eV 0)) (eB (opD eqD) (eV 0) (eV 1))))
  sNil)
  (sSeq (sIf (tOf (eIsi isIntS (eV 1)))
  (sRet true (eAnd (eCall 1 C__law_is_int (aCons (eV 0) aNil)) (eB (opD eqD) (eV 0) (eV 1))))
  sNil)
  (sSeq (sIf (tIsN (eV 1))
  (sRet true (eIsN (eV 0)))
  sNil)
  (sRet true (eAnd (eIsi isStrS (eV 0)) (eB (opD eqD) (eV 0) (eV 1))))))))
/-- data of small depth and width: no list, no dict -/
def smD : Nat → PyData → Prop
  | 0, _ => False
  | d + 1, x => match x with
    | .tuple xs => xs.length ≤ 1000 ∧ ∀ y ∈ xs, smD d y
    | .list _ => False
    | .dict _ => False
    | _ => True
def CR__law_same : Nat → Ctr
  | 0 => fun _ _ _ => False
  | d + 1 => fun args R _ => ∃ x, args = [.d x, .d x] ∧ smD (d + 1) x ∧ R (.d (.bool true))
abbrev C__law_same : Ctr := CR__law_same 5
theorem cr0__law_same : ∀ a R RX, ¬ CR__law_same 0 a R RX := fun _ _ _ h => h
theorem at__law_same {x : PyData} {R : SV → Prop} {RX : Exn → Prop} (hs : smD 5 x) (h : R (.d (.bool true))) : C__law_same [.d x, .d x] R RX := ⟨x, rfl, hs, h⟩
theorem ad__law_same : ∀ d, AdOk (CR__law_same (d + 1)) (ts__law_same (CR__law_same d)) N__law_same 2 := by
  rintro d args R RX hl ⟨x, rfl, hs, h⟩
  cases x with
  | tuple xs =>
    simp [smD] at hs
    obtain ⟨hl2, hs⟩ := hs
    simp [ts__law_same, startD]
    refine ⟨by omega, forL_range (fun i δ => ∃ o, δ = [some (.d (.tuple xs)), some (.d (.tuple xs)), o]) 0 xs.length ?_ ?_ _ ⟨_, rfl⟩⟩
    · rintro i δ K hi hK ⟨o, rfl⟩
      have e : atI xs (0 + (i : Int)) = some xs[i] := by rw [Int.zero_add, atI_at]; simp [hi]
      simp at e
      simp [e]
      have hx := hs xs[i] (List.getElem_mem _)
      cases d with
      | zero => exact hx.elim
      | succ d =>
        refine ⟨xs[i], rfl, hx, ?_⟩
        simp
        exact hK _ ⟨_, rfl⟩
    · rintro δ ⟨o, rfl⟩
      exact h
  | list xs => exact hs.elim
  | dict xs => exact hs.elim
  | _ =>
    simp [ts__law_same, startD, isTupD, isBoolS, isIntS, isNoneV, isIntD, isStrD]
    exact h
theorem sm_k (d k : Nat) : smD (d + 1) (kD k) := trivial
theorem sm_n {l : List Nat} (d : Nat) (h : l.length ≤ 1000) : smD (d + 2) (nD l) := ⟨by simpa using h, fun y hy => by
  obtain ⟨k, _, rfl⟩ := List.mem_map.mp hy
  exact sm_k d k⟩
theorem sm_2 {d : Nat} {x y : PyData} (h1 : smD d x) (h2 : smD d y) : smD (d + 1) (.tuple [x, y]) := ⟨by simp, fun z hz => by
  rcases List.mem_cons.mp hz with rfl | hz
  · exact h1
  · simp at hz; subst hz; exact h2⟩
theorem hr__law_same (T : Tx K mg) : ∀ d, ∃ fd : FuncData, FnOk P w K mg base (L2.CX P w) (2 + d) (He.ga K "_law_same") fd ["told", "due"] (spD K (LK K) 2 (CR__law_same d)) ∧ Binds K fd ["told", "due"] [] ∧ mg "_law_same" = some (.ref (He.ga K "_law_same")) ∧ PySem.W.keepIn K (.ref (He.ga K "_law_same")) = true
  | 0 => by
    obtain ⟨fd, FD⟩ := T.d__law_same
    exact ⟨fd, ⟨fun vs H Q E ⟨_, _, _, _, h, _⟩ => h, fun A outer s H args us vs Q E _ _ _ _ ⟨_, _, _, _, _, _, _, h, _⟩ => (cr0__law_same _ _ _ h).elim⟩, FD.bindsN fun _ _ _ _ _ _ us hl => match us, hl with | [_, _], _ => rfl, T.g__law_same, FD.kp⟩
  | d + 1 => by
    obtain ⟨_, F__law_same, B__law_same, M__law_same, K__law_same⟩ := hr__law_same T d
    obtain ⟨_, F__law_is_int, B__law_is_int, M__law_is_int, K__law_is_int⟩ := h__law_is_int (P := P) (w := w) (base := base) T
    have m_str : mg "str" = none := T.fr "str" (by decide)
    have m_isinstance : mg "isinstance" = none := T.fr "isinstance" (by decide)
    have m_int : mg "int" = none := T.fr "int" (by decide)
    have m_bool : mg "bool" = none := T.fr "bool" (by decide)
    have m_tuple : mg "tuple" = none := T.fr "tuple" (by decide)
    have m_range : mg "range" = none := T.fr "range" (by decide)
    have m_len : mg "len" = none := T.fr "len" (by decide)
    obtain ⟨fd, FD⟩ := T.d__law_same
    refine ⟨fd, ?_, FD.bindsN fun _ _ _ _ _ _ us hl => match us, hl with | [_, _], _ => rfl, T.g__law_same, FD.kp⟩
    refine fn_ok (k := 2 + d) (ts := ts__law_same (CR__law_same d)) FD sc__law_same (fun cdv A outer s H E hr => ?_) (ad__law_same d)
    have sc := sc__law_same
    exact (ds_cons (d_if (dt_of (dx_isi kit_tup (by rfl) m_tuple (by decide +kernel) (by rfl) m_isinstance (by decide +kernel) (dx_var 1)))
  (ds_cons (d_if (dt_w (dw_or (dt_not (dt_of (dx_isi kit_tup (by rfl) m_tuple (by decide +kernel) (by rfl) m_isinstance (by decide +kernel) (dx_var 0)))) (dw_or1 (dt_ne (by exact hr.units) (dx_len (by rfl) m_len (dx_var 0)) (dx_len (by rfl) m_len (dx_var 1))))))
  (ds_one (d_ret dx_bool))
  ds_nil)
  (ds_cons (d_for (by exact passes_of rfl) (by rfl) (di_range1 true (by rfl) m_range (dx_len (by rfl) m_len (dx_var 1))) (dg_name 2 sc.nd)
  (ds_one (d_if (dt_not (dt_of (dx_call (k := (2 + d)) F__law_same takes_cx (by exact hr.mono (by omega)) (by rfl) M__law_same K__law_same B__law_same (da_cons (dx_w fb (dx_ix (dx_var 0) (dx_var 2))) (da_cons (dx_w fb (dx_ix (dx_var 1) (dx_var 2))) da_nil)))))
  (ds_one (d_ret dx_bool))
  ds_nil)))
  (ds_one (d_ret dx_bool))))
  ds_nil)
  (ds_cons (d_if (dt_of (dx_isi kit_bool (by rfl) m_bool (by decide +kernel) (by rfl) m_isinstance (by decide +kernel) (dx_var 1)))
  (ds_one (d_ret (dx_and (dx_isi kit_bool (by rfl) m_bool (by decide +kernel) (by rfl) m_isinstance (by decide +kernel) (dx_var 0)) (dx_one (dx_eq (by exact hr.units) (dx_var 0) (dx_var 1))))))
  ds_nil)
  (ds_cons (d_if (dt_of (dx_isi kit_int (by rfl) m_int (by decide +kernel) (by rfl) m_isinstance (by decide +kernel) (dx_var 1)))
  (ds_one (d_ret (dx_and (dx_call (k := 1) F__law_is_int takes_cx (by exact hr.mono (by omega)) (by rfl) M__law_is_int K__law_is_int B__law_is_int (da_cons (dx_var 0) da_nil)) (dx_one (dx_eq (by exact hr.units) (dx_var 0) (dx_var 1))))))
  ds_nil)
  (ds_cons (d_if (dt_isNone (dx_var 1))
  (ds_one (d_ret (dx_isNone (dx_var 0))))
  ds_nil)
  (ds_one (d_ret (dx_and (dx_isi kit_str (by rfl) m_str (by decide +kernel) (by rfl) m_isinstance (by decide +kernel) (dx_var 0)) (dx_one (dx_eq (by exact hr.units) (dx_var 0) (dx_var 1))))))))))
theorem h__law_same (T : Tx K mg) : Has P w K mg base (LK K) "_law_same" 7 ["told", "due"] C__law_same := hr__law_same T 5
abbrev N__law_ticks : List Str := ["source", "count", "near", "low", "row", "k", "room"]
theorem sc__law_ticks : FnScope N__law_ticks ["source"] (defScope s__law_ticks) := ⟨rfl, rfl, rfl, by decide +kernel, rfl, by decide +kernel, by decide +kernel⟩
def ts__law_ticks : TDs := (sSeq (sSet ff 1 (eCall 2 C__law_take (aCons (eV 0) (aCons (eC (.int 41)) aNil))))
  (sSeq (sIf (tB2 (opD (cmpI fun i j => decide (j < i))) (eCall 2 C__law_take (aCons (eV 0) (aCons (eC (.int 4)) aNil))) (eC (.int 0)))
  (sSet ff 1 (eB (opD fdivD) (eV 1) (eC (.int 5))))
  sNil)
  (sSeq (sSet ff 2 (eCall 2 C__law_take (aCons (eV 0) (aCons (eC (.int 2)) aNil))))
  (sSeq (sSet ff 3 (eC (.int 0)))
  (sSeq (sSet ff 4 (eLst aNil))
  (sSeq (sFor (iRng1D (eV 1)) (gN 5)
  (sSeq (sSet ff 6 (eB (opD subD) (eC (.int 401)) (eV 3)))
  (sSeq (sIf (tB2 (opD eqD) (eV 2) (eC (.int 1)))
  (sSet ff 6 (eB (opD (mmD fun i j => min i j)) (eV 6) (eC (.int 4))))
  sNil)
  (sSeq (sSet ff 3 (eB addV (eV 3) (eCall 2 C__law_take (aCons (eV 0) (aCons (eV 6) aNil)))))
  (sApp 4 (eN (eV 3)))))))
  (sRet true (e1 (un1 tupD) (eV 4)))))))))
def C__law_ticks : Ctr := fun args R _ => args = [.tok] ∧ ∀ l : List Int, VRow l → R (.d (iD l))
theorem at__law_ticks {R : SV → Prop} {RX : Exn → Prop} (h : ∀ l : List Int, VRow l → R (.d (iD l))) : C__law_ticks [.tok] R RX := ⟨rfl, h⟩
theorem vrow_snoc {l : List Int} {low : Int} (h : VRow l) (hb : ∀ x ∈ l, x ≤ low) (h0 : 0 ≤ low) (h1 : low ≤ 400) (hl : l.length < 40) : VRow (l ++ [low]) := ⟨by simp; omega, List.pairwise_append.mpr ⟨h.asc, by simp, fun a ha b hb' => by simp at hb'; subst hb'; exact hb a ha⟩, fun x hx => by
  rcases List.mem_append.mp hx with hx | hx
  · exact h.rng x hx
  · simp at hx; omega⟩
theorem ad__law_ticks : AdOk C__law_ticks ts__law_ticks N__law_ticks 1 := by
  rintro args R RX hl ⟨rfl, h⟩
  have lb := line_big
  simp [ts__law_ticks, startD]
  have main : ∀ (c : Nat), c ≤ 40 → ∀ (nr : Nat) (E : EndsD), (∀ l low o5 o6, VRow l → E.nx [some .tok, some (.d (.int c)), some (.d (.int nr)), some (.d (.int low)), some (.own (l.map .int)), o5, o6]) → (∀ δ x, E.xc δ x = RX x) →
      forL (gN 5) (sSeq (sSet ff 6 (eB (opD subD) (eC (.int 401)) (eV 3)))
  (sSeq (sIf (tB2 (opD eqD) (eV 2) (eC (.int 1)))
  (sSet ff 6 (eB (opD (mmD fun i j => min i j)) (eV 6) (eC (.int 4))))
  sNil)
  (sSeq (sSet ff 3 (eB addV (eV 3) (eCall 2 C__law_take (aCons (eV 0) (aCons (eV 6) aNil)))))
  (sApp 4 (eN (eV 3)))))) (rangeD 0 c) [some .tok, some (.d (.int c)), some (.d (.int nr)), some (.d (.int 0)), some (.own []), none, none] E := by
    intro c hc nr E hE hX
    refine forL_range (fun i δ => ∃ l low o5 o6, δ = [some .tok, some (.d (.int c)), some (.d (.int nr)), some (.d (.int low)), some (.own (l.map .int)), o5, o6] ∧ VRow l ∧ l.length = i ∧ (∀ x ∈ l, x ≤ low) ∧ 0 ≤ low ∧ low ≤ 400) 0 c ?_ ?_ _ ⟨[], 0, none, none, rfl, ⟨by simp, .nil, by simp⟩, rfl, by simp, by omega, by omega⟩
    · rintro i δ K hi hK ⟨l, low, o5, o6, rfl, v, hlen, hb, h0, h1⟩
      have step : ∀ room : Int, 1 ≤ room → room ≤ 401 - low → ∀ k : Nat, (k : Int) < room → l.length < sizeLine ∧ K [some .tok, some (.d (.int c)), some (.d (.int nr)), some (.d (.int (low + k))), some (.own (l.map .int ++ [.int (low + k)])), some (.d (.int i)), some (.d (.int room))] := fun room r1 r2 k hk => by
        refine ⟨by omega, hK _ ⟨l ++ [low + k], low + k, some (.d (.int i)), some (.d (.int room)), by simp, vrow_snoc v (fun x hx => by have := hb x hx; omega) (by omega) (by omega) (by omega), by simp [hlen], fun x hx => ?_, by omega, by omega⟩⟩
        rcases List.mem_append.mp hx with hx | hx
        · have := hb x hx; omega
        · simp at hx; omega
      by_cases e : (nr : Int) = 1
      · simp [e]
        have := step (min (401 - low) 4) (by omega) (by omega)
        refine ⟨by omega, by omega, fun k hk => ?_⟩
        simpa [e] using this k (by omega)
      · simp [e]
        refine ⟨by omega, by omega, fun k hk => ?_⟩
        simpa using step (401 - low) (by omega) (by omega) k hk
    · rintro δ ⟨l, low, o5, o6, rfl, v, _, _, _, _⟩
      exact hE l low o5 o6 v
  intro c hc k1 hk1
  have fin : ∀ (c : Nat) (_ : c ≤ 40) (nr : Nat), _ := fun c hc nr => main c hc nr { nx := fun δ' => svAt δ' 4 fun x => un1 tupD x fun sv => R sv, rt := fun x => R, xc := fun x => RX } (fun l low o5 o6 v => by
    simp [nol_int]
    exact h l v) (fun _ _ => rfl)
  by_cases c1 : 0 < k1
  · simp [c1]
    refine ⟨⟨by omega, by omega⟩, fun k hk => ⟨by omega, by omega, ?_⟩⟩
    have e : (c : Int) / 5 = ((c / 5 : Nat) : Int) := by omega
    rw [e]
    exact fin (c / 5) (by omega) k
  · simp [c1]
    exact fun k hk => ⟨by omega, fin c (by omega) k⟩
theorem h__law_ticks (T : Tx K mg) : Has P w K mg base (LK K) "_law_ticks" 2 ["source"] C__law_ticks := by
  obtain ⟨_, F__law_take, B__law_take, M__law_take, K__law_take⟩ := h__law_take (P := P) (w := w) (base := base) T
  have m_tuple : mg "tuple" = none := T.fr "tuple" (by decide)
  have m_range : mg "range" = none := T.fr "range" (by decide)
  have m_min : mg "min" = none := T.fr "min" (by decide)
  obtain ⟨fd, FD⟩ := T.d__law_ticks
  refine ⟨fd, ?_, FD.bindsN fun _ _ _ _ _ _ us hl => match us, hl with | [_], _ => rfl, T.g__law_ticks, FD.kp⟩
  refine fn_ok (ts := ts__law_ticks) FD sc__law_ticks (fun cdv A outer s H E hr => ?_) ad__law_ticks
  have sc := sc__law_ticks
  exact (ds_cons (d_set 1 sc.nd (dx_call (k := 1) F__law_take takes_cx (by exact hr.mono (by decide)) (by rfl) M__law_take K__law_take B__law_take (da_cons (dx_var 0) (da_cons (dx_w fb dx_int) da_nil))))
  (ds_cons (d_if (dt_gt (dx_call (k := 1) F__law_take takes_cx (by exact hr.mono (by decide)) (by rfl) M__law_take K__law_take B__law_take (da_cons (dx_var 0) (da_cons (dx_w fb dx_int) da_nil))) dx_int)
  (ds_one (d_set 1 sc.nd (dx_fdiv (dx_var 1) dx_int)))
  ds_nil)
  (ds_cons (d_set 2 sc.nd (dx_call (k := 1) F__law_take takes_cx (by exact hr.mono (by decide)) (by rfl) M__law_take K__law_take B__law_take (da_cons (dx_var 0) (da_cons (dx_w fb dx_int) da_nil))))
  (ds_cons (d_set 3 sc.nd dx_int)
  (ds_cons (d_set 4 sc.nd (dx_lst da_nil))
  (ds_cons (d_for (by exact passes_of rfl) (by rfl) (di_range1 true (by rfl) m_range (dx_var 1)) (dg_name 5 sc.nd)
  (ds_cons (d_set 6 sc.nd (dx_sub dx_int (dx_var 3)))
  (ds_cons (d_if (dt_eq (by exact hr.units) (dx_var 2) dx_int)
  (ds_one (d_set 6 sc.nd (dx_min2 (by rfl) (by rfl) m_min (dx_var 6) dx_int)))
  ds_nil)
  (ds_cons (d_set 3 sc.nd (dx_add (dx_var 3) (dx_call (k := 1) F__law_take takes_cx (by exact hr.mono (by decide)) (by rfl) M__law_take K__law_take B__law_take (da_cons (dx_var 0) (da_cons (dx_var 6) da_nil)))))
  (ds_one (d_app 4 (dx_n (dx_var 3))))))))
  (ds_one (d_ret (dx_tupc (by rfl) m_tuple (dx_var 4))))))))))
abbrev N__law_met : List Str := ["source", "sends", "late", "count", "row", "k", "tick"]
theorem sc__law_met : FnScope N__law_met ["source", "sends", "late"] (defScope s__law_met) := ⟨rfl, rfl, rfl, by decide +kernel, rfl, by decide +kernel, by decide +kernel⟩
def ts__law_met : TDs := (sSeq (sSet ff 3 (eCall 2 C__law_take (aCons (eV 0) (aCons (eC (.int 41)) aNil))))
  (sSeq (sIf (tB2 (opD (cmpI fun i j => decide (j < i))) (eCall 2 C__law_take (aCons (eV 0) (aCons (eC (.int 4)) aNil))) (eC (.int 0)))
  (sSet ff 3 (eB (opD fdivD) (eV 3) (eC (.int 5))))
  sNil)
  (sSeq (sSet ff 4 (eLst aNil))
  (sSeq (sFor (iRng1D (eV 3)) (gN 5)
  (sSeq (sSet ff 6 (eCall 2 C__law_take (aCons (eV 0) (aCons (eC (.int 401)) aNil))))
  (sSeq (sIf (tAndD (tB2 (opD (cmpI fun i j => decide (j < i))) (e1 lenV (eV 1)) (eC (.int 0))) (tB2 (opD (cmpI fun i j => decide (j < i))) (eCall 2 C__law_take (aCons (eV 0) (aCons (eC (.int 12)) aNil))) (eC (.int 0))))
  (sSet ff 6 (eB addV (eIx (eV 1) (eCall 2 C__law_take (aCons (eV 0) (aCons (e1 lenV (eV 1)) aNil)))) (eCall 2 C__law_take (aCons (eV 0) (aCons (eB addV (eV 2) (eC (.int 1))) aNil)))))
  sNil)
  (sApp 4 (eB (opD (mmD fun i j => min i j)) (eC (.int 400)) (eV 6))))))
  (sRet true (e1 (un1 tupD) (e1 (un1 sortedD) (eV 4))))))))
def C__law_met : Ctr := fun args R _ => ∃ (S : List Int) (L : Int), args = [.tok, .d (iD S), .d (.int L)] ∧ VRow S ∧ 0 ≤ L ∧ L ≤ 400 ∧ ∀ l : List Int, VRow l → R (.d (iD l))
theorem at__law_met {S : List Int} {L : Int} {R : SV → Prop} {RX : Exn → Prop} (v : VRow S) (h0 : 0 ≤ L) (h1 : L ≤ 400) (h : ∀ l : List Int, VRow l → R (.d (iD l))) : C__law_met [.tok, .d (iD S), .d (.int L)] R RX := ⟨S, L, rfl, v, h0, h1, h⟩
theorem ad__law_met : AdOk C__law_met ts__law_met N__law_met 3 := by
  rintro args R RX hl ⟨S, L, rfl, v, hL0, hL1, h⟩
  have lb := line_big
  have sl := v.len
  simp [ts__law_met, startD, iD]
  have main : ∀ (c : Nat), c ≤ 40 → ∀ (E : EndsD), (∀ (l : List Int) o5 o6, l.length ≤ 40 → (∀ x ∈ l, 0 ≤ x ∧ x ≤ 400) → E.nx [some .tok, some (.d (.tuple (S.map .int))), some (.d (.int L)), some (.d (.int c)), some (.own (l.map .int)), o5, o6]) → (∀ δ x, E.xc δ x = RX x) →
      forL (gN 5) (sSeq (sSet ff 6 (eCall 2 C__law_take (aCons (eV 0) (aCons (eC (.int 401)) aNil))))
  (sSeq (sIf (tAndD (tB2 (opD (cmpI fun i j => decide (j < i))) (e1 lenV (eV 1)) (eC (.int 0))) (tB2 (opD (cmpI fun i j => decide (j < i))) (eCall 2 C__law_take (aCons (eV 0) (aCons (eC (.int 12)) aNil))) (eC (.int 0))))
  (sSet ff 6 (eB addV (eIx (eV 1) (eCall 2 C__law_take (aCons (eV 0) (aCons (e1 lenV (eV 1)) aNil)))) (eCall 2 C__law_take (aCons (eV 0) (aCons (eB addV (eV 2) (eC (.int 1))) aNil)))))
  sNil)
  (sApp 4 (eB (opD (mmD fun i j => min i j)) (eC (.int 400)) (eV 6))))) (rangeD 0 c) [some .tok, some (.d (.tuple (S.map .int))), some (.d (.int L)), some (.d (.int c)), some (.own []), none, none] E := by
    intro c hc E hE hX
    refine forL_range (fun i δ => ∃ (l : List Int) (o5 o6 : Option SV), δ = [some .tok, some (.d (.tuple (S.map .int))), some (.d (.int L)), some (.d (.int c)), some (.own (l.map .int)), o5, o6] ∧ l.length = i ∧ (∀ x ∈ l, 0 ≤ x ∧ x ≤ 400)) 0 c ?_ ?_ _ ⟨[], none, none, rfl, rfl, by simp⟩
    · rintro i δ K hi hK ⟨l, o5, o6, rfl, hlen, hb⟩
      have step : ∀ t : Int, 0 ≤ t → l.length < sizeLine ∧ K [some .tok, some (.d (.tuple (S.map .int))), some (.d (.int L)), some (.d (.int c)), some (.own (l.map .int ++ [.int (min 400 t)])), some (.d (.int i)), some (.d (.int t))] := fun t t0 => by
        refine ⟨by omega, hK _ ⟨l ++ [min 400 t], some (.d (.int i)), some (.d (.int t)), by simp, by simp [hlen], fun x hx => ?_⟩⟩
        rcases List.mem_append.mp hx with hx | hx
        · exact hb x hx
        · simp at hx; omega
      simp
      intro t1 ht1
      by_cases c1 : 0 < S.length
      · simp [c1]
        intro k2 hk2
        by_cases c2 : 0 < k2
        · simp [c2]
          refine ⟨by omega, by omega, fun k3 hk3 => ?_⟩
          have g := getI hk3
          have r := v.rng (S.getD k3 0) (by simp [hk3])
          generalize S.getD k3 0 = y at g r
          simp [g]
          refine ⟨by omega, by omega, fun k4 hk4 => ?_⟩
          simpa using step (y + k4) (by omega)
        · simp [c2]
          simpa using step t1 (by omega)
      · simp [c1]
        simpa using step t1 (by omega)
    · rintro δ ⟨l, o5, o6, rfl, hlen, hb⟩
      exact hE l o5 o6 (by omega) hb
  intro c hc k1 hk1
  have fin : ∀ (c : Nat) (_ : c ≤ 40), _ := fun c hc => main c hc { nx := fun δ' => svAt δ' 4 fun x => un1 sortedD x fun x => un1 tupD x fun sv => R sv, rt := fun x => R, xc := fun x => RX } (fun l o5 o6 hlen hb => by
    simp
    refine ⟨l, rfl, fun ns hp hs => ?_⟩
    simp [nol_int]
    exact h ns ⟨by rw [hp.length_eq]; omega, hs, fun x hx => hb x (hp.mem_iff.mp hx)⟩) (fun _ _ => rfl)
  by_cases c1 : 0 < k1
  · simp [c1]
    have e : (c : Int) / 5 = ((c / 5 : Nat) : Int) := by omega
    refine ⟨⟨by omega, by omega⟩, ?_⟩
    rw [e]
    exact ⟨by omega, by omega, fin (c / 5) (by omega)⟩
  · simp [c1]
    exact ⟨by omega, fin c (by omega)⟩
theorem h__law_met (T : Tx K mg) : Has P w K mg base (LK K) "_law_met" 2 ["source", "sends", "late"] C__law_met := by
  obtain ⟨_, F__law_take, B__law_take, M__law_take, K__law_take⟩ := h__law_take (P := P) (w := w) (base := base) T
  have m_sorted : mg "sorted" = none := T.fr "sorted" (by decide)
  have m_tuple : mg "tuple" = none := T.fr "tuple" (by decide)
  have m_range : mg "range" = none := T.fr "range" (by decide)
  have m_min : mg "min" = none := T.fr "min" (by decide)
  have m_len : mg "len" = none := T.fr "len" (by decide)
  obtain ⟨fd, FD⟩ := T.d__law_met
  refine ⟨fd, ?_, FD.bindsN fun _ _ _ _ _ _ us hl => match us, hl with | [_, _, _], _ => rfl, T.g__law_met, FD.kp⟩
  refine fn_ok (ts := ts__law_met) FD sc__law_met (fun cdv A outer s H E hr => ?_) ad__law_met
  have sc := sc__law_met
  exact (ds_cons (d_set 3 sc.nd (dx_call (k := 1) F__law_take takes_cx (by exact hr.mono (by decide)) (by rfl) M__law_take K__law_take B__law_take (da_cons (dx_var 0) (da_cons (dx_w fb dx_int) da_nil))))
  (ds_cons (d_if (dt_gt (dx_call (k := 1) F__law_take takes_cx (by exact hr.mono (by decide)) (by rfl) M__law_take K__law_take B__law_take (da_cons (dx_var 0) (da_cons (dx_w fb dx_int) da_nil))) dx_int)
  (ds_one (d_set 3 sc.nd (dx_fdiv (dx_var 3) dx_int)))
  ds_nil)
  (ds_cons (d_set 4 sc.nd (dx_lst da_nil))
  (ds_cons (d_for (by exact passes_of rfl) (by rfl) (di_range1 true (by rfl) m_range (dx_var 3)) (dg_name 5 sc.nd)
  (ds_cons (d_set 6 sc.nd (dx_call (k := 1) F__law_take takes_cx (by exact hr.mono (by decide)) (by rfl) M__law_take K__law_take B__law_take (da_cons (dx_var 0) (da_cons (dx_w fb dx_int) da_nil))))
  (ds_cons (d_if (dt_w (dw_and (dt_gt (dx_len (by rfl) m_len (dx_var 1)) dx_int) (dw_and1 (dt_gt (dx_call (k := 1) F__law_take takes_cx (by exact hr.mono (by decide)) (by rfl) M__law_take K__law_take B__law_take (da_cons (dx_var 0) (da_cons (dx_w fb dx_int) da_nil))) dx_int))))
  (ds_one (d_set 6 sc.nd (dx_add (dx_w fb (dx_ix (dx_var 1) (dx_call (k := 1) F__law_take takes_cx (by exact hr.mono (by decide)) (by rfl) M__law_take K__law_take B__law_take (da_cons (dx_var 0) (da_cons (dx_w fb (dx_len (by rfl) m_len (dx_var 1))) da_nil))))) (dx_call (k := 1) F__law_take takes_cx (by exact hr.mono (by decide)) (by rfl) M__law_take K__law_take B__law_take (da_cons (dx_var 0) (da_cons (dx_w fb (dx_add (dx_var 2) dx_int)) da_nil))))))
  ds_nil)
  (ds_one (d_app 4 (dx_min2 (by rfl) (by rfl) m_min dx_int (dx_var 6)))))))
  (ds_one (d_ret (dx_tupc (by rfl) m_tuple (dx_sorted (by rfl) m_sorted (dx_var 4)))))))))
abbrev N__law_partners : List Str := ["sends", "arrivals", "late", "rows", "send", "k"]
theorem sc__law_partners : FnScope N__law_partners ["sends", "arrivals", "late"] (defScope s__law_partners) := ⟨rfl, rfl, rfl, by decide +kernel, rfl, by decide +kernel, by decide +kernel⟩
def ts__law_partners : TDs := (sSeq (sSet ff 3 (eLst aNil))
  (sSeq (sFor (iSeqD fs (eVD 0)) (gN 4)
  (sApp 3 (lcD (iRng1D (e1 lenV (eV 1))) (gN 5) (tChainD (fun i j => decide (i ≤ j)) (fun i j => decide (i ≤ j)) (eV 4) (eIx (eV 1) (eV 5)) (eB addV (eV 4) (eV 2))) (eN (eV 5)) [5])))
  (sRet true (eVO 3))))
theorem lists_own (rows : List (List Nat)) (k : SV → Prop) (h : ∀ s, toArg s = .d (.list (rows.map lD)) → k s) : storeV ff (.own (rows.map lD)) k := by
  rw [storeV_own]
  split
  · exact h _ rfl
  · exact h _ rfl
def C__law_partners : Ctr := fun args R _ => ∃ (S A : List Int) (L : Int), args = [.d (iD S), .d (iD A), .d (.int L)] ∧ Sides S A L ∧ R (.own ((sRows S A L).map lD))
theorem at__law_partners {S A : List Int} {L : Int} {R : SV → Prop} {RX : Exn → Prop} (v : Sides S A L) (h : R (.own ((sRows S A L).map lD))) : C__law_partners [.d (iD S), .d (iD A), .d (.int L)] R RX := ⟨S, A, L, rfl, v, h⟩
theorem ad__law_partners : AdOk C__law_partners ts__law_partners N__law_partners 3 := by
  rintro args R RX hl ⟨S, A, L, rfl, v, h⟩
  have lb := line_big
  have hS := v.s.len
  have hA := v.a.len
  simp [ts__law_partners, startD, iD, ownSeq]
  refine forL_list (S.map .int) (fun k δ => ∃ (P : List (List Nat)) (o4 o5 : Option SV), δ = [some (.d (.tuple (S.map .int))), some (.d (.tuple (A.map .int))), some (.d (.int L)), some (.own (P.map lD)), o4, o5] ∧ P = (S.take k).map fun s => sRow A L s) ?_ ?_ _ ⟨[], none, none, rfl, rfl⟩
  · rintro k d δ K hd hK ⟨P, o4, o5, rfl, hP⟩
    have hk : k < S.length := by have := lt_of_get hd; simpa using this
    have ed : d = .int S[k] := by simp [hk] at hd; exact hd.symm
    subst ed
    simp [lcD]
    refine ⟨by omega, by rw [rangeD_len]; omega, ?_⟩
    refine lcL_range A.length (fun j => N50.part L S[k] (A.getD j 0)) kD (fun j hj k1' k0' a' b' => ?_) ?_
    · have e := getI hj
      generalize A.getD j 0 = y at e a' b'
      simp [wipeD, e]
      exact part_cases a' b'
    · have e : P ++ [sRow A L S[k]] = (S.take (k + 1)).map fun s => sRow A L s := by
        rw [List.take_succ_eq_append_getElem hk, List.map_append, hP]; rfl
      have lt : P.length < sizeLine := by rw [hP]; simp; omega
      exact ⟨lt, hK _ ⟨P ++ [sRow A L S[k]], _, _, by rw [List.map_append]; rfl, e⟩⟩
  · rintro δ ⟨P, o4, o5, rfl, hP⟩
    have e : S.take (S.map PyData.int).length = S := by simp
    rw [e] at hP
    subst hP
    exact ⟨rfl, h⟩
theorem h__law_partners (T : Tx K mg) : Has P w K mg base (LK K) "_law_partners" 1 ["sends", "arrivals", "late"] C__law_partners := by
  have m_range : mg "range" = none := T.fr "range" (by decide)
  have m_len : mg "len" = none := T.fr "len" (by decide)
  obtain ⟨fd, FD⟩ := T.d__law_partners
  refine ⟨fd, ?_, FD.bindsN fun _ _ _ _ _ _ us hl => match us, hl with | [_, _, _], _ => rfl, T.g__law_partners, FD.kp⟩
  refine fn_ok (ts := ts__law_partners) FD sc__law_partners (fun cdv A outer s H E hr => ?_) ad__law_partners
  have sc := sc__law_partners
  exact (ds_cons (d_set 3 sc.nd (dx_lst da_nil))
  (ds_cons (d_for (by exact passes_of rfl) (by rfl) (di_seq (fl := fs) true (dx_varD 0)) (dg_name 4 sc.nd)
  (ds_one (d_app 3 (dx_lc (own := [("k", 5)]) sc.nd (di_range1 false (by rfl) m_range (dx_len (by rfl) m_len (dx_var 1))) (blkOk_by (own := [("k", 5)]) (N := N__law_partners) (sc := defScope s__law_partners) (by decide +kernel)) (fun _ _ _ _ _ => (dg_name 5 sc.nd)) (fun _ _ _ _ _ => (dts_one (dt_chain op_le op_le (dx_var 4) (dx_w fb (dx_ix (dx_var 1) (dx_var 5))) (dx_add (dx_var 4) (dx_var 2))))) (fun _ _ _ _ _ => (dx_n (dx_var 5)))))))
  (ds_one (d_ret (dx_varO 3)))))
abbrev N__law_turned : List Str := ["rows", "count", "turned", "k", "at"]
theorem sc__law_turned : FnScope N__law_turned ["rows", "count"] (defScope s__law_turned) := ⟨rfl, rfl, rfl, by decide +kernel, rfl, by decide +kernel, by decide +kernel⟩
def ts__law_turned : TDs := (sSeq (sSet ff 2 (eLst aNil))
  (sSeq (sFor (iRng1D (eV 1)) (gN 3)
  (sApp 2 (lcD (iRng1D (e1 lenV (eV 0))) (gN 4) (tB2 (opD (inD false)) (eV 3) (eIx (eV 0) (eV 4))) (eN (eV 4)) [4])))
  (sRet true (eVO 2))))
def C__law_turned : Ctr := fun args R _ => ∃ (S A : List Int) (L : Int), args = [.d (.list ((sRows S A L).map lD)), .d (.int (A.length : Nat))] ∧ Sides S A L ∧ R (.own ((aRows S A L).map lD))
theorem at__law_turned {S A : List Int} {L : Int} {R : SV → Prop} {RX : Exn → Prop} (v : Sides S A L) (h : R (.own ((aRows S A L).map lD))) : C__law_turned [.d (.list ((sRows S A L).map lD)), .d (.int (A.length : Nat))] R RX := ⟨S, A, L, rfl, v, h⟩
theorem row_meet {S A : List Int} {L : Int} {k : Nat} (hk : k < A.length) : rowA S A L k = (List.range S.length).filter fun j => decide (k ∈ rowS S A L j) := by
  unfold rowA aRow
  refine List.filter_congr fun j hj => ?_
  rw [Bool.eq_iff_iff]
  simp [rowS, mem_sRow, hk, N50.part]
theorem ad__law_turned : AdOk C__law_turned ts__law_turned N__law_turned 2 := by
  rintro args R RX hl ⟨S, A, L, rfl, v, h⟩
  have lb := line_big
  have hS := v.s.len
  have hA := v.a.len
  have rl : (sRows S A L).length = S.length := by simp [sRows]
  simp [ts__law_turned, startD]
  refine ⟨by omega, forL_range (fun k δ => ∃ (P : List (List Nat)) (o3 o4 : Option SV), δ = [some (.d (.list ((sRows S A L).map lD))), some (.d (.int (A.length : Nat))), some (.own (P.map lD)), o3, o4] ∧ P = (A.take k).map fun a => aRow S L a) 0 A.length ?_ ?_ _ ⟨[], none, none, rfl, rfl⟩⟩
  · rintro k δ K hk hK ⟨P, o3, o4, rfl, hP⟩
    simp [lcD]
    refine ⟨by omega, by rw [rangeD_len]; omega, ?_⟩
    refine lcL_range (sRows S A L).length (fun j => decide (k ∈ rowS S A L j)) kD (fun j hj k1' k0' a' b' => ?_) ?_
    · have g := getM (F := lD) hj
      have e : (sRows S A L)[j] = rowS S A L j := by
        have : j < S.length := by rw [← rl]; exact hj
        simp [sRows, rowS, this]
      rw [e] at g
      simp [wipeD, g, lD, inD_lK]
      by_cases c : k ∈ rowS S A L j
      · have := a' (by simp [c])
        simpa [c, kD] using this
      · have := b' (by simp [c])
        simpa [c] using this
    · rw [rl, ← row_meet hk]
      have e : P ++ [rowA S A L k] = (A.take (k + 1)).map fun a => aRow S L a := by
        rw [List.take_succ_eq_append_getElem hk, List.map_append, hP]; simp [rowA, hk]
      have lt : P.length < sizeLine := by rw [hP]; simp; omega
      exact ⟨lt, hK _ ⟨P ++ [rowA S A L k], _, _, by rw [List.map_append]; rfl, e⟩⟩
  · rintro δ ⟨P, o3, o4, rfl, hP⟩
    have e : A.take A.length = A := by simp
    rw [e] at hP
    subst hP
    exact ⟨rfl, h⟩
theorem h__law_turned (T : Tx K mg) : Has P w K mg base (LK K) "_law_turned" 1 ["rows", "count"] C__law_turned := by
  have m_range : mg "range" = none := T.fr "range" (by decide)
  have m_len : mg "len" = none := T.fr "len" (by decide)
  obtain ⟨fd, FD⟩ := T.d__law_turned
  refine ⟨fd, ?_, FD.bindsN fun _ _ _ _ _ _ us hl => match us, hl with | [_, _], _ => rfl, T.g__law_turned, FD.kp⟩
  refine fn_ok (ts := ts__law_turned) FD sc__law_turned (fun cdv A outer s H E hr => ?_) ad__law_turned
  have sc := sc__law_turned
  exact (ds_cons (d_set 2 sc.nd (dx_lst da_nil))
  (ds_cons (d_for (by exact passes_of rfl) (by rfl) (di_range1 true (by rfl) m_range (dx_var 1)) (dg_name 3 sc.nd)
  (ds_one (d_app 2 (dx_lc (own := [("at", 4)]) sc.nd (di_range1 false (by rfl) m_range (dx_len (by rfl) m_len (dx_var 0))) (blkOk_by (own := [("at", 4)]) (N := N__law_turned) (sc := defScope s__law_turned) (by decide +kernel)) (fun _ _ _ _ _ => (dg_name 4 sc.nd)) (fun _ _ _ _ _ => (dts_one (dt_in (by exact Room.u65 hr) (dx_var 3) (dx_w fb (dx_ix (dx_var 0) (dx_var 4)))))) (fun _ _ _ _ _ => (dx_n (dx_var 4)))))))
  (ds_one (d_ret (dx_varO 2)))))
abbrev N__law_taken : List Str := ["rows", "count", "taken", "at", "free", "k"]
theorem sc__law_taken : FnScope N__law_taken ["rows", "count"] (defScope s__law_taken) := ⟨rfl, rfl, rfl, by decide +kernel, rfl, by decide +kernel, by decide +kernel⟩
def ts__law_taken : TDs := (sSeq (sSet ff 2 (eLst aNil))
  (sSeq (sFor (iRng1D (eV 1)) (gN 3)
  (sSeq (sSet ff 4 (lcD (iSeqD fb (eIx (eV 0) (eV 3))) (gN 5) (tB2 (opD (inD true)) (eV 5) (eV 2)) (eN (eV 5)) [5]))
  (sApp 2 (eIx (eB addV (eV 4) (eLst (aCons (eNeg (eC (.int 1))) aNil))) (eC (.int 0))))))
  (sRet true (eVO 2))))
def C__law_taken : Ctr := fun args R _ => ∃ (S A : List Int) (L : Int), args = [.d (.list ((aRows S A L).map lD)), .d (.int (A.length : Nat))] ∧ Sides S A L ∧ R (.own ((grd S L 0 A).map zD))
theorem at__law_taken {S A : List Int} {L : Int} {R : SV → Prop} {RX : Exn → Prop} (v : Sides S A L) (h : R (.own ((grd S L 0 A).map zD))) : C__law_taken [.d (.list ((aRows S A L).map lD)), .d (.int (A.length : Nat))] R RX := ⟨S, A, L, rfl, v, h⟩
theorem nol_z (T : List (Option Nat)) : nolistA (T.map zD) = true := nol_map (fun _ => nolist_zD _) T
theorem ad__law_taken : AdOk C__law_taken ts__law_taken N__law_taken 2 := by
  rintro args R RX hl ⟨S, A, L, rfl, v, h⟩
  have lb := line_big
  have hS := v.s.len
  have hA := v.a.len
  have g0 : grd S L 0 A = tkn S L [] A := grd_tkn v.S A [] 0 (-1) ⟨by simp, fun q hq => by omega⟩ (fun a ha => by have := (v.a.rng a ha).1; omega) v.a.asc
  have rl : (aRows S A L).length = A.length := by simp [aRows]
  simp [ts__law_taken, startD]
  refine ⟨by omega, forL_range (fun k δ => ∃ T o3 o4 o5, δ = [some (.d (.list ((aRows S A L).map lD))), some (.d (.int (A.length : Nat))), some (.own (T.map zD)), o3, o4, o5] ∧ T.length = k ∧ T ++ tkn S L T (A.drop k) = grd S L 0 A) 0 A.length ?_ ?_ _ ⟨[], none, none, none, rfl, rfl, by rw [g0]; rfl⟩⟩
  · rintro k δ K hk hK ⟨T, o3, o4, o5, rfl, hlen, hT⟩
    have eA : A.drop k = A.getD k 0 :: A.drop (k + 1) := by
      rw [List.drop_eq_getElem_cons hk]; simp [hk]
    rw [eA, tkn] at hT
    have g := getM (F := lD) (l := aRows S A L) (k := k) (by rw [rl]; exact hk)
    have e : (aRows S A L)[k]'(by rw [rl]; exact hk) = aRow S L (A.getD k 0) := by simp [aRows, hk]
    rw [e] at g
    have ral : (aRow S L (A.getD k 0)).length ≤ 40 := by
      have := List.length_filter_le (fun j => N50.part L (S.getD j 0) (A.getD k 0)) (List.range S.length)
      rw [List.length_range] at this
      unfold aRow
      omega
    generalize aRow S L (A.getD k 0) = row at g hT ral
    simp [lcD, g]
    refine ⟨by simp [nol_k], by simp; omega, ?_⟩
    refine lcL_of kD (fun j => !decide (some j ∈ T)) kD row [] (fun j hj k1' k0' a' b' => ?_) ?_
    · simp [wipeD, kD, inD_z]
      by_cases c : some j ∈ T
      · have := b' (by simp [c])
        simpa [c] using this
      · have := a' (by simp [c])
        simpa [c, kD] using this
    · have en : nolistA ([] ++ (row.filter fun j => !decide (some j ∈ T)).map kD) = true := nol_k _
      rw [if_pos en]
      have hh : (row.filter fun j => !decide (some j ∈ T)).head? = row.find? fun j => !T.contains (some j) := by
        rw [List.head?_filter]
        congr 1
        funext j
        simp
      have ll : (row.filter fun j => !decide (some j ∈ T)).length ≤ 40 := Nat.le_trans (List.length_filter_le _ _) ral
      have hz := head_z (row.filter fun j => !decide (some j ∈ T))
      rw [hh] at hz
      generalize row.filter (fun j => !decide (some j ∈ T)) = fr at ll hz
      generalize row.find? (fun j => !T.contains (some j)) = x at hT hz
      have tl : T.length < sizeLine := by omega
      simp [nol_k, hz, tl]
      refine ⟨by omega, hK _ ⟨T ++ [x], _, _, _, by rw [List.map_append]; rfl, by simp [hlen], by simpa using hT⟩⟩
  · rintro δ ⟨T, o3, o4, o5, rfl, hlen, hT⟩
    rw [List.drop_length] at hT
    simp [tkn] at hT
    subst hT
    exact ⟨rfl, h⟩
theorem h__law_taken (T : Tx K mg) : Has P w K mg base (LK K) "_law_taken" 1 ["rows", "count"] C__law_taken := by
  have m_range : mg "range" = none := T.fr "range" (by decide)
  obtain ⟨fd, FD⟩ := T.d__law_taken
  refine ⟨fd, ?_, FD.bindsN fun _ _ _ _ _ _ us hl => match us, hl with | [_, _], _ => rfl, T.g__law_taken, FD.kp⟩
  refine fn_ok (ts := ts__law_taken) FD sc__law_taken (fun cdv A outer s H E hr => ?_) ad__law_taken
  have sc := sc__law_taken
  exact (ds_cons (d_set 2 sc.nd (dx_lst da_nil))
  (ds_cons (d_for (by exact passes_of rfl) (by rfl) (di_range1 true (by rfl) m_range (dx_var 1)) (dg_name 3 sc.nd)
  (ds_cons (d_setLc (own := [("k", 5)]) 4 sc.nd (di_seq (fl := fb) false (dx_w fb (dx_ix (dx_var 0) (dx_var 3)))) (blkOk_by (own := [("k", 5)]) (N := N__law_taken) (sc := defScope s__law_taken) (by decide +kernel)) (fun _ _ _ _ _ => (dg_name 5 sc.nd)) (fun _ _ _ _ _ => (dts_one (dt_notIn (by exact Room.u65 hr) (dx_var 5) (dx_var 2)))) (fun _ _ _ _ _ => (dx_n (dx_var 5))) (by exact sw_true rfl rfl rfl (by decide +kernel)))
  (ds_one (d_app 2 (dx_ix (dx_add (dx_var 4) (dx_lst (da_cons (dx_neg dx_int) da_nil))) dx_int)))))
  (ds_one (d_ret (dx_varO 2)))))
abbrev N__law_mates : List Str := ["taken", "count", "mates", "k", "at"]
theorem sc__law_mates : FnScope N__law_mates ["taken", "count"] (defScope s__law_mates) := ⟨rfl, rfl, rfl, by decide +kernel, rfl, by decide +kernel, by decide +kernel⟩
def ts__law_mates : TDs := (sSeq (sSet ff 2 (eLst aNil))
  (sSeq (sFor (iRng1D (eV 1)) (gN 3)
  (sApp 2 (eIx (eB addV (lcD (iRng1D (e1 lenV (eV 0))) (gN 4) (tB2 (opD eqD) (eIx (eV 0) (eV 4)) (eV 3)) (eN (eV 4)) [4]) (eLst (aCons (eNeg (eC (.int 1))) aNil))) (eC (.int 0)))))
  (sRet true (eVO 2))))
def C__law_mates : Ctr := fun args R _ => ∃ (T : List (Option Nat)) (n : Nat), args = [.d (.list (T.map zD)), .d (.int (n : Nat))] ∧ T.length ≤ 40 ∧ n ≤ 40 ∧ R (.own (((List.range n).map fun s => N50.mt T s).map zD))
theorem at__law_mates {T : List (Option Nat)} {n : Nat} {R : SV → Prop} {RX : Exn → Prop} (h1 : T.length ≤ 40) (h2 : n ≤ 40) (h : R (.own (((List.range n).map fun s => N50.mt T s).map zD))) : C__law_mates [.d (.list (T.map zD)), .d (.int (n : Nat))] R RX := ⟨T, n, rfl, h1, h2, h⟩
theorem ad__law_mates : AdOk C__law_mates ts__law_mates N__law_mates 2 := by
  rintro args R RX hl ⟨T, n, rfl, h1, h2, h⟩
  have lb := line_big
  simp [ts__law_mates, startD]
  refine ⟨by omega, forL_range (fun k δ => ∃ (P : List (Option Nat)) (o3 o4 : Option SV), δ = [some (.d (.list (T.map zD))), some (.d (.int (n : Nat))), some (.own (P.map zD)), o3, o4] ∧ P = (List.range k).map fun s => N50.mt T s) 0 n ?_ ?_ _ ⟨[], none, none, rfl, rfl⟩⟩
  · rintro k δ K hk hK ⟨P, o3, o4, rfl, hP⟩
    simp [lcD]
    refine ⟨by omega, by rw [rangeD_len]; omega, ?_⟩
    refine lcL_range T.length (fun j => T[j]? == some (some k)) kD (fun j hj k1' k0' a' b' => ?_) ?_
    · have g := getM (F := zD) hj
      have e : T[j]? = some T[j] := by simp [hj]
      rw [e] at a' b'
      generalize T[j] = x at g a' b'
      simp [wipeD, g]
      cases x with
      | none =>
        have := b' (by simp)
        have ne : ¬ (-1 : Int) = (k : Int) := by omega
        simpa [zD, ne] using this
      | some s =>
        by_cases c : s = k
        · subst c
          have := a' (by simp)
          simpa [zD, kD] using this
        · have := b' (by simp [c])
          have ne : ¬ (s : Int) = (k : Int) := by omega
          simpa [zD, ne] using this
    · have hh : ((List.range T.length).filter fun j => T[j]? == some (some k)).head? = N50.mt T k := List.head?_filter ..
      have ll := List.length_filter_le (fun j => T[j]? == some (some k)) (List.range T.length)
      rw [List.length_range] at ll
      have hz := head_z ((List.range T.length).filter fun j => T[j]? == some (some k))
      rw [hh] at hz
      generalize (List.range T.length).filter (fun j => T[j]? == some (some k)) = fr at ll hz
      have tl : P.length < sizeLine := by rw [hP]; simp; omega
      simp [nol_k, hz, tl]
      refine ⟨by omega, hK _ ⟨P ++ [N50.mt T k], _, _, by rw [List.map_append]; rfl, by rw [hP, List.range_succ, List.map_append]; rfl⟩⟩
  · rintro δ ⟨P, o3, o4, rfl, rfl⟩
    exact ⟨rfl, h⟩
theorem h__law_mates (T : Tx K mg) : Has P w K mg base (LK K) "_law_mates" 1 ["taken", "count"] C__law_mates := by
  have m_range : mg "range" = none := T.fr "range" (by decide)
  have m_len : mg "len" = none := T.fr "len" (by decide)
  obtain ⟨fd, FD⟩ := T.d__law_mates
  refine ⟨fd, ?_, FD.bindsN fun _ _ _ _ _ _ us hl => match us, hl with | [_, _], _ => rfl, T.g__law_mates, FD.kp⟩
  refine fn_ok (ts := ts__law_mates) FD sc__law_mates (fun cdv A outer s H E hr => ?_) ad__law_mates
  have sc := sc__law_mates
  exact (ds_cons (d_set 2 sc.nd (dx_lst da_nil))
  (ds_cons (d_for (by exact passes_of rfl) (by rfl) (di_range1 true (by rfl) m_range (dx_var 1)) (dg_name 3 sc.nd)
  (ds_one (d_app 2 (dx_ix (dx_add (dx_lc (own := [("at", 4)]) sc.nd (di_range1 false (by rfl) m_range (dx_len (by rfl) m_len (dx_var 0))) (blkOk_by (own := [("at", 4)]) (N := N__law_mates) (sc := defScope s__law_mates) (by decide +kernel)) (fun _ _ _ _ _ => (dg_name 4 sc.nd)) (fun _ _ _ _ _ => (dts_one (dt_eq (by exact hr.units) (dx_w fb (dx_ix (dx_var 0) (dx_var 4))) (dx_var 3)))) (fun _ _ _ _ _ => (dx_n (dx_var 4)))) (dx_lst (da_cons (dx_neg dx_int) da_nil))) dx_int))))
  (ds_one (d_ret (dx_varO 2)))))
abbrev N__law_loose : List Str := ["rows", "mates", "others", "found", "at", "turn", "k"]
theorem sc__law_loose : FnScope N__law_loose ["rows", "mates", "others"] (defScope s__law_loose) := ⟨rfl, rfl, rfl, by decide +kernel, rfl, by decide +kernel, by decide +kernel⟩
def ts__law_loose : TDs := (sSeq (sSet ff 3 (lcD (iRng1D (e1 lenV (eV 0))) (gN 4) (tB2 (opD (cmpI fun i j => decide (i < j))) (eIx (eV 1) (eV 4)) (eC (.int 0))) (eN (eV 4)) [4]))
  (sSeq (sFor (iRng1D (e1 lenV (eV 0))) (gN 5)
  (sIf (tB2 (opD (cmpI fun i j => decide (i < j))) (eV 5) (e1 lenV (eV 3)))
  (sFor (iSeqD fo (eIx (eVD 0) (eIx (eV 3) (eV 5)))) (gN 6)
  (sIf (tAndD (tB2 (opD (cmpI fun i j => decide (j ≤ i))) (eIx (eV 2) (eV 6)) (eC (.int 0))) (tB2 (opD (inD true)) (eIx (eV 2) (eV 6)) (eV 3)))
  (sApp 3 (eN (eIx (eV 2) (eV 6))))
  sNil))
  sNil))
  (sRet true (e1 (un1 tupD) (e1 (un1 sortedD) (eV 3))))))
def C__law_loose : Ctr := fun args R _ => ∃ (rows : List (List Nat)) (mxl myl : List (Option Nat)) (nx : Nat) (mx : Nat → Option Nat) (row : Nat → List Nat) (my : Nat → Option Nat), args = [.d (.list (rows.map lD)), .d (.list (mxl.map zD)), .d (.list (myl.map zD))] ∧ Wk rows mxl myl nx mx row my ∧ R (.d (nD (lst nx (Way nx mx row my))))
theorem at__law_loose {rows : List (List Nat)} {mxl myl : List (Option Nat)} {nx : Nat} {mx : Nat → Option Nat} {row : Nat → List Nat} {my : Nat → Option Nat} {R : SV → Prop} {RX : Exn → Prop} (W : Wk rows mxl myl nx mx row my) (h : R (.d (nD (lst nx (Way nx mx row my))))) : C__law_loose [.d (.list (rows.map lD)), .d (.list (mxl.map zD)), .d (.list (myl.map zD))] R RX := ⟨rows, mxl, myl, nx, mx, row, my, rfl, W, h⟩
theorem add_loopF (f : Nat → Nat) {g : TDg} {t : TDs} {E : EndsD} (B : List Nat → Option SV → DS) : ∀ (xs q : List Nat) (o : Option SV), (∀ x ∈ xs, ∀ (q : List Nat) (o : Option SV) (K : DS → Prop), (∀ o', K (B (if f x ∈ q then q else q ++ [f x]) o')) → q.length ≤ 900 → g (kD x) (B q o) fun δ1 => t δ1 { nx := K, rt := E.rt, xc := E.xc, bk := E.nx, ct := K }) → q.length + xs.length ≤ 900 → (∀ o', E.nx (B (addN q (xs.map f)) o')) → forL g t (xs.map kD) (B q o) E
  | [], q, o, _, _, h => h o
  | x :: r, q, o, hs, hl, h => by
    rw [List.map_cons, forL_cons]
    simp at hl
    refine hs x (by simp) q o _ (fun o' => ?_) (by omega)
    rw [List.map_cons, addN] at h
    by_cases c : f x ∈ q
    · rw [if_pos c] at h ⊢
      exact add_loopF f B r _ o' (fun y hy => hs y (by simp [hy])) (by omega) h
    · rw [if_neg c] at h ⊢
      exact add_loopF f B r _ o' (fun y hy => hs y (by simp [hy])) (by simp; omega) h
theorem ad__law_loose : AdOk C__law_loose ts__law_loose N__law_loose 3 := by
  rintro args R RX hl ⟨rows, mxl, myl, nx, mx, row, my, rfl, W, h⟩
  have n40 := W.n40
  have lb := line_big
  have rn := W.r
  simp [ts__law_loose, startD, lcD]
  refine ⟨by omega, by rw [rangeD_len]; omega, ?_⟩
  refine lcL_range rows.length (fun k => (mx k).isNone) kD (fun k hk k1 k0 a b => ?_) ?_
  · have e : atI (mxl.map zD) (k : Int) = some (zD (mx k)) := by rw [atI_at, List.getElem?_map, W.mm k (by omega)]; rfl
    simp [wipeD, e]
    cases em : mx k with
    | none => simpa [zD, kD] using a (by simp [em])
    | some y =>
      have := b (by simp [em])
      have ne : ¬ ((y : Int) < 0) := by omega
      simpa [zD, ne] using this
  · have st : ∀ x, x ∈ (List.range nx).filter (fun k => (mx k).isNone) ↔ x < nx ∧ mx x = none := fun x => by simp
    have nd0 : ((List.range nx).filter (fun k => (mx k).isNone)).Nodup := List.nodup_range.filter _
    rw [rn]
    rw [if_pos (nol_k _)]
    generalize (List.range nx).filter (fun k => (mx k).isNone) = q0 at st nd0
    let B : Option SV → Option SV → List Nat → Option SV → DS := fun o4 o5 q o => [some (.d (.list (rows.map lD))), some (.d (.list (mxl.map zD))), some (.d (.list (myl.map zD))), some (.own (q.map kD)), o4, o5, o]
    refine ⟨by omega, forL_range (fun i δ => ∃ (q : List Nat) (o4 o5 o : Option SV), δ = B o4 o5 q o ∧ q.Nodup ∧ (∀ x ∈ q, Way nx mx row my x) ∧ (∀ x, x < nx ∧ mx x = none → x ∈ q) ∧ (∀ j, j < i → j < q.length → ∀ y ∈ (row (q.getD j 0)).map (fun y => (my y).getD 0), y ∈ q)) 0 nx ?_ ?_ _ ⟨q0, none, none, none, rfl, nd0, fun x hx => .base ((st x).mp hx), fun x hx => (st x).mpr hx, fun j hj => by omega⟩⟩
    · rintro i δ K hi hK ⟨q, o4, o5, o, rfl, nd, hP, hs, hc⟩
      have ln := len_nx nd hP W.lt
      by_cases c : i < q.length
      · have hx : Way nx mx row my q[i] := hP _ (List.getElem_mem _)
        have g := getM (F := kD) c
        have e : atI (rows.map lD) ((q[i] : Nat) : Int) = some (lD (row q[i])) := by rw [atI_at, List.getElem?_map, W.rr _ (W.lt _ hx)]; rfl
        have eq0 : q.getD i 0 = q[i] := by simp [c]
        simp [B, c, g, kD, e]
        simp only [lD, seqV_lst]
        show forL _ _ ((row q[i]).map kD) (B o4 (some (.d (.int (i : Nat)))) q o) _
        have wl := W.ln q[i]
        refine add_loopF (fun y => (my y).getD 0) (B o4 (some (.d (.int (i : Nat))))) (row q[i]) q o (fun y hy q o K hK hq => ?_) (by omega) fun o' => ?_
        · obtain ⟨x', e1, e2⟩ := W.cl _ hx y hy
          have g : atI (myl.map zD) (y : Int) = some (.int (x' : Nat)) := by rw [atI_at, List.getElem?_map, e2]; rfl
          have hsz : q.length < sizeLine := by omega
          have := hK (some (.d (kD y)))
          simp only [e1, Option.getD_some] at this
          rw [gN_at]
          by_cases c : x' ∈ q
          · rw [if_pos c] at this
            simpa [B, kD, g, inD_lK, c] using this
          · rw [if_neg c] at this
            simpa [B, kD, g, inD_lK, c, hsz] using this
        · refine hK _ ⟨addN q ((row q[i]).map fun y => (my y).getD 0), o4, some (.d (.int (i : Nat))), o', rfl, nodup_addN nd, fun x hx' => ?_, fun x hx' => mem_addN.mpr (.inl (hs x hx')), fun j hj hjl y hy => ?_⟩
          · rcases mem_addN.mp hx' with z | z
            · exact hP x z
            · obtain ⟨y, hy, rfl⟩ := List.mem_map.mp z
              obtain ⟨x', e1, e2⟩ := W.cl _ hx y hy
              exact .step hx ⟨y, hy, by rw [e1]; rfl⟩
          · obtain ⟨r, er⟩ := addN_pre (xs := (row q[i]).map fun y => (my y).getD 0) (q := q)
            have ej : (addN q ((row q[i]).map fun y => (my y).getD 0)).getD j 0 = q.getD j 0 := by
              rw [er]; simp [List.getD, List.getElem?_append, (by omega : j < q.length)]
            rw [ej] at hy
            rcases Nat.eq_or_lt_of_le (Nat.le_of_lt_succ hj) with z | z
            · subst z
              rw [eq0] at hy
              exact mem_addN.mpr (.inr hy)
            · exact mem_addN.mpr (.inl (hc j z (by omega) y hy))
      · simp [B, c]
        refine hK _ ⟨q, o4, _, o, rfl, nd, hP, hs, fun j hj hjl => hc j (by omega) hjl⟩
    · rintro δ ⟨q, o4, o5, o, rfl, nd, hP, hs, hc⟩
      have ln := len_nx nd hP W.lt
      simp [B]
      refine ⟨q.map fun k : Nat => (k : Int), by simp [kD, Function.comp_def], fun ns hp hs' => ?_⟩
      have := sort_lst (n := nx) (P := Way nx mx row my) nd (fun x => ⟨fun hx => ⟨W.lt x (hP x hx), hP x hx⟩, fun hx => by
        have hw := hx.2
        clear hx
        induction hw with
        | base f => exact hs _ f
        | step r s ih =>
          obtain ⟨y, hy, e⟩ := s
          obtain ⟨j, hj, e2⟩ := List.getElem_of_mem ih
          have e3 : q.getD j 0 = q[j] := by simp [hj]
          refine hc j (by omega) hj _ ?_
          rw [e3, e2]
          exact List.mem_map.mpr ⟨y, hy, by rw [e]; rfl⟩⟩) hp hs'
      simp [this, nol_k]
      exact h
theorem h__law_loose (T : Tx K mg) : Has P w K mg base (LK K) "_law_loose" 1 ["rows", "mates", "others"] C__law_loose := by
  have m_sorted : mg "sorted" = none := T.fr "sorted" (by decide)
  have m_tuple : mg "tuple" = none := T.fr "tuple" (by decide)
  have m_range : mg "range" = none := T.fr "range" (by decide)
  have m_len : mg "len" = none := T.fr "len" (by decide)
  obtain ⟨fd, FD⟩ := T.d__law_loose
  refine ⟨fd, ?_, FD.bindsN fun _ _ _ _ _ _ us hl => match us, hl with | [_, _, _], _ => rfl, T.g__law_loose, FD.kp⟩
  refine fn_ok (ts := ts__law_loose) FD sc__law_loose (fun cdv A outer s H E hr => ?_) ad__law_loose
  have sc := sc__law_loose
  exact (ds_cons (d_setLc (own := [("at", 4)]) 3 sc.nd (di_range1 false (by rfl) m_range (dx_len (by rfl) m_len (dx_var 0))) (blkOk_by (own := [("at", 4)]) (N := N__law_loose) (sc := defScope s__law_loose) (by decide +kernel)) (fun _ _ _ _ _ => (dg_name 4 sc.nd)) (fun _ _ _ _ _ => (dts_one (dt_lt (dx_w fb (dx_ix (dx_var 1) (dx_var 4))) dx_int))) (fun _ _ _ _ _ => (dx_n (dx_var 4))) (by exact sw_true rfl rfl rfl (by decide +kernel)))
  (ds_cons (d_for (by exact passes_of rfl) (by rfl) (di_range1 true (by rfl) m_range (dx_len (by rfl) m_len (dx_var 0))) (dg_name 5 sc.nd)
  (ds_one (d_if (dt_lt (dx_var 5) (dx_len (by rfl) m_len (dx_var 3)))
  (ds_one (d_for (by exact passes_of rfl) (by rfl) (di_seq (fl := fo) true (dx_ix (fa := fs) (dx_varD 0) (dx_w fb (dx_ix (dx_var 3) (dx_var 5))))) (dg_name 6 sc.nd)
  (ds_one (d_if (dt_w (dw_and (dt_ge (dx_w fb (dx_ix (dx_var 2) (dx_var 6))) dx_int) (dw_and1 (dt_notIn (by exact Room.u65 hr) (dx_w fb (dx_ix (dx_var 2) (dx_var 6))) (dx_var 3)))))
  (ds_one (d_app 3 (dx_n (dx_w fb (dx_ix (dx_var 2) (dx_var 6))))))
  ds_nil))))
  ds_nil)))
  (ds_one (d_ret (dx_tupc (by rfl) m_tuple (dx_sorted (by rfl) m_sorted (dx_var 3)))))))
abbrev N__law_met_by : List Str := ["rows", "indexes", "met", "at", "k"]
theorem sc__law_met_by : FnScope N__law_met_by ["rows", "indexes"] (defScope s__law_met_by) := ⟨rfl, rfl, rfl, by decide +kernel, rfl, by decide +kernel, by decide +kernel⟩
def ts__law_met_by : TDs := (sSeq (sSet ff 2 (eLst aNil))
  (sSeq (sFor (iSeqD fs (eVD 1)) (gN 3)
  (sExt 2 (lcD (iSeqD fb (eIx (eV 0) (eV 3))) (gN 4) (tB2 (opD (inD true)) (eV 4) (eV 2)) (eN (eV 4)) [4])))
  (sRet true (e1 lenV (eV 2)))))
def C__law_met_by : Ctr := fun args R _ => ∃ (rows : List (List Nat)) (m : Nat) (idx : List Nat), args = [.d (.list (rows.map lD)), .d (nD idx)] ∧ RowsOk rows m ∧ (∀ r ∈ rows, r.Nodup) ∧ idx.length ≤ 50 ∧ (∀ x ∈ idx, x < rows.length) ∧ R (.d (.int ((prt rows m idx).length : Nat)))
theorem at__law_met_by {rows : List (List Nat)} {m : Nat} {idx : List Nat} {R : SV → Prop} {RX : Exn → Prop} (v : RowsOk rows m) (nd : ∀ r ∈ rows, r.Nodup) (h1 : idx.length ≤ 50) (h2 : ∀ x ∈ idx, x < rows.length) (h : R (.d (.int ((prt rows m idx).length : Nat)))) : C__law_met_by [.d (.list (rows.map lD)), .d (nD idx)] R RX := ⟨rows, m, idx, rfl, v, nd, h1, h2, h⟩
/-- what the rows at these places hold, in the order of first sight -/
def metN (rows : List (List Nat)) (q : List Nat) (idx : List Nat) : List Nat := idx.foldl (fun q x => addN q (rows.getD x [])) q
theorem mem_metN {rows : List (List Nat)} : ∀ {idx q : List Nat} {y : Nat}, y ∈ metN rows q idx ↔ y ∈ q ∨ Prt rows idx y
  | [], q, y => by simp [metN, Prt]
  | x :: r, q, y => by
    rw [metN, List.foldl_cons]
    have := mem_metN (rows := rows) (idx := r) (q := addN q (rows.getD x [])) (y := y)
    rw [metN] at this
    rw [this, mem_addN]
    unfold Prt
    constructor
    · rintro ((a | a) | ⟨z, hz, a⟩)
      · exact .inl a
      · exact .inr ⟨x, by simp, a⟩
      · exact .inr ⟨z, by simp [hz], a⟩
    · rintro (a | ⟨z, hz, a⟩)
      · exact .inl (.inl a)
      · rcases List.mem_cons.mp hz with rfl | hz
        · exact .inl (.inr a)
        · exact .inr ⟨z, hz, a⟩
theorem nodup_metN {rows : List (List Nat)} : ∀ {idx q : List Nat}, q.Nodup → (metN rows q idx).Nodup
  | [], q, h => h
  | x :: r, q, h => by
    rw [metN, List.foldl_cons]
    exact nodup_metN (nodup_addN h)
theorem prt_lt {rows : List (List Nat)} {m : Nat} {idx : List Nat} (v : RowsOk rows m) (h2 : ∀ x ∈ idx, x < rows.length) : ∀ y, Prt rows idx y → y < m := fun y ⟨x, hx, hy⟩ => by
  have hx0 := h2 x hx
  have eg : rows.getD x [] = rows[x] := by simp [hx0]
  rw [eg] at hy
  exact v.lt _ (List.getElem_mem _) y hy
theorem metN_len {rows : List (List Nat)} {m : Nat} {idx : List Nat} (v : RowsOk rows m) (h2 : ∀ x ∈ idx, x < rows.length) : (metN rows [] idx).length = (prt rows m idx).length :=
  nodup_len (nodup_metN .nil) (asc_nodup (lst_asc _ _)) fun x => by
    rw [mem_metN, mem_lst]
    constructor
    · rintro (a | a)
      · cases a
      · exact ⟨prt_lt v h2 x a, a⟩
    · exact fun ⟨_, a⟩ => .inr a
theorem metN_le {rows : List (List Nat)} {m : Nat} {q idx : List Nat} (v : RowsOk rows m) (h2 : ∀ x ∈ idx, x < rows.length) (nd : q.Nodup) (hq : ∀ y ∈ q, y < m) : (metN rows q idx).length ≤ 40 := by
  have := nodup_bound (n := m) (nodup_metN (rows := rows) (idx := idx) nd) fun x hx => by
    rcases mem_metN.mp hx with a | a
    · exact hq x a
    · exact prt_lt v h2 x a
  have := v.m40
  omega
theorem ad__law_met_by : AdOk C__law_met_by ts__law_met_by N__law_met_by 2 := by
  rintro args R RX hl ⟨rows, m, idx, rfl, v, nd, h1, h2, h⟩
  have lb := line_big
  have m40 := v.m40
  simp [ts__law_met_by, startD, ownSeq, nD]
  refine forL_inv (fun r δ => ∃ (ri q : List Nat) (o3 o4 : Option SV), r = ri.map kD ∧ δ = [some (.d (.list (rows.map lD))), some (.d (.tuple (idx.map kD))), some (.own (q.map kD)), o3, o4] ∧ (∀ x ∈ ri, x < rows.length) ∧ q.Nodup ∧ (∀ y ∈ q, y < m) ∧ metN rows q ri = metN rows [] idx) ?_ ?_ _ _ ⟨idx, [], none, none, rfl, rfl, h2, .nil, by simp, rfl⟩
  · rintro d r δ K hK ⟨ri, q, o3, o4, er, rfl, hri, hq, hqm, hm⟩
    obtain ⟨x, ri', rfl, rfl⟩ : ∃ x ri', ri = x :: ri' ∧ d = kD x := by
      cases ri with
      | nil => cases er
      | cons a ri' => injection er with e1 e2; exact ⟨a, ri', rfl, e1⟩
    injection er with _ er
    have hx0 := hri x (by simp)
    have mem : rows[x] ∈ rows := List.getElem_mem _
    have eg : rows.getD x [] = rows[x] := by simp [hx0]
    have g := getM (F := lD) hx0
    have rl := v.ln _ mem
    have rm := v.lt _ mem
    have rnd := nd _ mem
    rw [metN, List.foldl_cons, eg] at hm
    generalize rows[x] = row at g rl rm rnd hm
    have ql := nodup_bound hq hqm
    rw [gN_at]
    simp [kD, g, lcD]
    simp only [lD, seqV_lst]
    refine ⟨nol_k _, by simp; omega, lcL_of kD (fun j => !decide (j ∈ q)) kD row [] (fun j hj k1' k0' a' b' => ?_) ?_⟩
    · simp [wipeD, kD, inD_lK]
      by_cases c : j ∈ q
      · have := b' (by simp [c])
        simpa [c] using this
      · have := a' (by simp [c])
        simpa [c, kD] using this
    · have ef := addN_filter (q := q) rnd
      have fl := List.length_filter_le (fun j => !decide (j ∈ q)) row
      have := hK [some (.d (.list (rows.map lD))), some (.d (.tuple (idx.map kD))), some (.own ((addN q row).map kD)), some (.d (kD x)), o4] ⟨ri', addN q row, _, _, er, rfl, fun y hy => hri y (by simp [hy]), nodup_addN hq, fun y hy => (mem_addN.mp hy).elim (hqm y) (rm y), hm⟩
      rw [ef, List.map_append] at this
      generalize row.filter (fun j => !decide (j ∈ q)) = fr at fl this
      simp
      refine ⟨by omega, ?_⟩
      simpa [kD] using this
  · rintro δ ⟨ri, q, o3, o4, er, rfl, hri, hq, hqm, hm⟩
    have : ri = [] := by cases ri <;> simp at er ⊢
    subst this
    have hm : q = metN rows [] idx := hm
    have hl := metN_len v h2
    rw [← hm] at hl
    simp
    rw [hl]
    exact h
theorem h__law_met_by (T : Tx K mg) : Has P w K mg base (LK K) "_law_met_by" 1 ["rows", "indexes"] C__law_met_by := by
  have m_len : mg "len" = none := T.fr "len" (by decide)
  obtain ⟨fd, FD⟩ := T.d__law_met_by
  refine ⟨fd, ?_, FD.bindsN fun _ _ _ _ _ _ us hl => match us, hl with | [_, _], _ => rfl, T.g__law_met_by, FD.kp⟩
  refine fn_ok (ts := ts__law_met_by) FD sc__law_met_by (fun cdv A outer s H E hr => ?_) ad__law_met_by
  have sc := sc__law_met_by
  exact (ds_cons (d_set 2 sc.nd (dx_lst da_nil))
  (ds_cons (d_for (by exact passes_of rfl) (by rfl) (di_seq (fl := fs) true (dx_varD 1)) (dg_name 3 sc.nd)
  (ds_one (d_ext 2 (dx_lc (own := [("k", 4)]) sc.nd (di_seq (fl := fb) false (dx_w fb (dx_ix (dx_var 0) (dx_var 3)))) (blkOk_by (own := [("k", 4)]) (N := N__law_met_by) (sc := defScope s__law_met_by) (by decide +kernel)) (fun _ _ _ _ _ => (dg_name 4 sc.nd)) (fun _ _ _ _ _ => (dts_one (dt_notIn (by exact Room.u65 hr) (dx_var 4) (dx_var 2)))) (fun _ _ _ _ _ => (dx_n (dx_var 4)))))))
  (ds_one (d_ret (dx_len (by rfl) m_len (dx_var 2))))))
abbrev N__law_is_set : List Str := ["told", "count", "k"]
theorem sc__law_is_set : FnScope N__law_is_set ["told", "count"] (defScope s__law_is_set) := ⟨rfl, rfl, rfl, by decide +kernel, rfl, by decide +kernel, by decide +kernel⟩
def ts__law_is_set : TDs := (sSeq (sIf (tNotD (tOf (eIsi isTupS (eV 0))))
  (sRet true (eC (.bool false)))
  sNil)
  (sSeq (sFor (iRng1D (e1 lenV (eV 0))) (gN 2)
  (sSeq (sIf (tOrD (tNotD (tOf (eCall 1 C__law_is_int (aCons (eIx (eV 0) (eV 2)) aNil)))) (tOrD (tB2 (opD (cmpI fun i j => decide (i < j))) (eIx (eV 0) (eV 2)) (eC (.int 0))) (tB2 (opD (cmpI fun i j => decide (j ≤ i))) (eIx (eV 0) (eV 2)) (eV 1))))
  (sRet true (eC (.bool false)))
  sNil)
  (sIf (tAndD (tB2 (opD (cmpI fun i j => decide (j < i))) (eV 2) (eC (.int 0))) (tB2 (opD (cmpI fun i j => decide (j ≤ i))) (eIx (eV 0) (eB (opD subD) (eV 2) (eC (.int 1)))) (eIx (eV 0) (eV 2))))
  (sRet true (eC (.bool false)))
  sNil)))
  (sRet true (eC (.bool true)))))
def C__law_is_set : Ctr := fun args R _ => ∃ (x : PyData) (n : Nat), args = [.d x, .d (.int (n : Nat))] ∧ nolist x = true ∧ lenOk x ∧ R (.d (.bool (isIdx n x)))
theorem at__law_is_set {x : PyData} {n : Nat} {R : SV → Prop} {RX : Exn → Prop} (hx : nolist x = true) (hl : lenOk x) (h : R (.d (.bool (isIdx n x)))) : C__law_is_set [.d x, .d (.int (n : Nat))] R RX := ⟨x, n, rfl, hx, hl, h⟩
theorem idx_no {n : Nat} {ds : List PyData} {d : PyData} (hd : d ∈ ds) (e : inRD d 0 ((n : Int) - 1) = false) : isIdx n (.tuple ds) = false := by
  have : ds.all (fun d => inRD d 0 ((n : Int) - 1)) = false := by
    rw [List.all_eq_false]
    exact ⟨d, hd, by rw [e]; simp⟩
  simp only [isIdx, this, Bool.false_and]
theorem intV_get (ds : List PyData) (k : Nat) : (ds.map intV).getD k 0 = intV (ds.getD k .none) := by
  simp only [List.getD, List.getElem?_map]
  cases ds[k]? <;> rfl
theorem ad__law_is_set : AdOk C__law_is_set ts__law_is_set N__law_is_set 2 := by
  rintro args R RX hl ⟨x, n, rfl, hx, hlen, h⟩
  cases x with
  | tuple ds =>
    simp [lenOk] at hlen
    simp [ts__law_is_set, startD]
    refine ⟨by omega, forL_range (fun k δ => ∃ o, δ = [some (.d (.tuple ds)), some (.d (.int (n : Nat))), o] ∧ (∀ i, i < k → inRD (ds.getD i .none) 0 ((n : Int) - 1) = true) ∧ ∀ i, i + 1 < k → intV (ds.getD i .none) < intV (ds.getD (i + 1) .none)) 0 ds.length ?_ ?_ _ ⟨none, rfl, fun i hi => by omega, fun i hi => by omega⟩⟩
    · rintro k δ K hk hK ⟨o, rfl, hb, hc⟩
      have g : atI ds (k : Int) = some (ds.getD k .none) := by rw [atI_at]; simp [hk]
      have mem : ds.getD k .none ∈ ds := by simp [hk]
      have nk := nolA_mem (by simpa using hx) _ mem
      have okk := okD_nol nk
      have no : inRD (ds.getD k .none) 0 ((n : Int) - 1) = false → R (.d (.bool false)) := fun e => by rw [idx_no mem e] at h; exact h
      have nx : inRD (ds.getD k .none) 0 ((n : Int) - 1) = true → (∀ i, i + 1 = k → intV (ds.getD i .none) < intV (ds.getD k .none)) → K [some (.d (.tuple ds)), some (.d (.int (n : Nat))), some (.d (.int (k : Nat)))] := fun e1 e2 => hK _ ⟨_, rfl, fun i hi => by
        rcases Nat.eq_or_lt_of_le (Nat.le_of_lt_succ hi) with z | z
        · rw [z]; exact e1
        · exact hb i z, fun i hi => by
        rcases Nat.eq_or_lt_of_le (Nat.le_of_lt_succ hi) with z | z
        · rw [z]; exact e2 i z
        · exact hc i z⟩
      have dn : ∀ i, i + 1 = k → ¬ intV (ds.getD i .none) < intV (ds.getD k .none) → R (.d (.bool false)) := fun i hi hn => by
        have : isIdx n (.tuple ds) = false := by
          have : ascB (ds.map intV) = false := by
            cases e : ascB (ds.map intV) with
            | false => rfl
            | true =>
              have := (ascB_at _).mp e i (by simp; omega)
              rw [intV_get, intV_get, hi] at this
              exact absurd this hn
          simp only [isIdx, this, Bool.and_false]
        rw [this] at h
        exact h
      have pv : ∀ i, i + 1 = k → ∃ j, atI ds ((k : Int) - 1) = some (.int j) ∧ intV (ds.getD i .none) = j := fun i hi => by
        have := hb i (by omega)
        have g : atI ds ((k : Int) - 1) = some (ds.getD i .none) := by
          rw [show (k : Int) - 1 = (i : Nat) by omega, atI_at]; simp [(by omega : i < ds.length)]
        generalize ds.getD i .none = z at this g
        cases z <;> simp [inRD] at this
        exact ⟨_, g, rfl⟩
      generalize ds.getD k .none = z at g nk okk no nx dn
      simp [g, okk]
      cases z with
      | int i =>
        have ev : ∀ j : Int, intV (.int j) = j := fun _ => rfl
        simp only [inRD, ev] at no nx dn
        simp [isIntD]
        by_cases c1 : i < 0
        · have e : ¬ (0 ≤ i) := by omega
          simp [c1]
          exact no (by simp [e])
        · by_cases c2 : (n : Int) ≤ i
          · have e : ¬ (i ≤ (n : Int) - 1) := by omega
            simp [c1, c2]
            exact no (by simp [e])
          · have e1 : 0 ≤ i := by omega
            have e2 : i ≤ (n : Int) - 1 := by omega
            replace nx := nx (by simp [e1, e2])
            simp [c1, c2]
            by_cases c3 : 0 < k
            · obtain ⟨j, hj1, hj2⟩ := pv (k - 1) (by omega)
              simp [c3, hj1]
              by_cases c4 : i ≤ j
              · simp [c4]
                exact dn (k - 1) (by omega) (by rw [hj2]; omega)
              · simp [c4]
                refine nx fun q hq => ?_
                rw [show q = k - 1 by omega, hj2]
                omega
            · simp [c3]
              exact nx fun q hq => by omega
      | _ => first
        | (simp [nolist] at nk; done)
        | (simp [isIntD]; exact no rfl)
    · rintro δ ⟨o, rfl, hb, hc⟩
      have a1 : ds.all (fun d => inRD d 0 ((n : Int) - 1)) = true := by
        rw [List.all_eq_true]
        intro d hd
        obtain ⟨k, hk, e⟩ := List.getElem_of_mem hd
        have := hb k hk
        simpa [hk, e] using this
      have a2 : ascB (ds.map intV) = true := (ascB_at _).mpr fun i hi => by
        rw [intV_get, intV_get]
        exact hc i (by simpa using hi)
      have : isIdx n (.tuple ds) = true := by simp only [isIdx, a1, a2, Bool.and_self]
      rw [this] at h
      exact h
  | _ => first
    | (simp [nolist] at hx; done)
    | (simp [ts__law_is_set, startD, isTupD, isIdx] at h ⊢; exact h)
theorem h__law_is_set (T : Tx K mg) : Has P w K mg base (LK K) "_law_is_set" 2 ["told", "count"] C__law_is_set := by
  obtain ⟨_, F__law_is_int, B__law_is_int, M__law_is_int, K__law_is_int⟩ := h__law_is_int (P := P) (w := w) (base := base) T
  have m_range : mg "range" = none := T.fr "range" (by decide)
  have m_len : mg "len" = none := T.fr "len" (by decide)
  have m_tuple : mg "tuple" = none := T.fr "tuple" (by decide)
  have m_isinstance : mg "isinstance" = none := T.fr "isinstance" (by decide)
  obtain ⟨fd, FD⟩ := T.d__law_is_set
  refine ⟨fd, ?_, FD.bindsN fun _ _ _ _ _ _ us hl => match us, hl with | [_, _], _ => rfl, T.g__law_is_set, FD.kp⟩
  refine fn_ok (ts := ts__law_is_set) FD sc__law_is_set (fun cdv A outer s H E hr => ?_) ad__law_is_set
  have sc := sc__law_is_set
  exact (ds_cons (d_if (dt_not (dt_of (dx_isi kit_tup (by rfl) m_tuple (by decide +kernel) (by rfl) m_isinstance (by decide +kernel) (dx_var 0))))
  (ds_one (d_ret dx_bool))
  ds_nil)
  (ds_cons (d_for (by exact passes_of rfl) (by rfl) (di_range1 true (by rfl) m_range (dx_len (by rfl) m_len (dx_var 0))) (dg_name 2 sc.nd)
  (ds_cons (d_if (dt_w (dw_or (dt_not (dt_of (dx_call (k := 1) F__law_is_int takes_cx (by exact hr.mono (by decide)) (by rfl) M__law_is_int K__law_is_int B__law_is_int (da_cons (dx_w fb (dx_ix (dx_var 0) (dx_var 2))) da_nil)))) (dw_or (dt_lt (dx_w fb (dx_ix (dx_var 0) (dx_var 2))) dx_int) (dw_or1 (dt_ge (dx_w fb (dx_ix (dx_var 0) (dx_var 2))) (dx_var 1))))))
  (ds_one (d_ret dx_bool))
  ds_nil)
  (ds_one (d_if (dt_w (dw_and (dt_gt (dx_var 2) dx_int) (dw_and1 (dt_ge (dx_w fb (dx_ix (dx_var 0) (dx_sub (dx_var 2) dx_int))) (dx_w fb (dx_ix (dx_var 0) (dx_var 2)))))))
  (ds_one (d_ret dx_bool))
  ds_nil))))
  (ds_one (d_ret dx_bool))))
abbrev N__law_lacks : List Str := ["rows", "told", "limit"]
theorem sc__law_lacks : FnScope N__law_lacks ["rows", "told", "limit"] (defScope s__law_lacks) := ⟨rfl, rfl, rfl, by decide +kernel, rfl, by decide +kernel, by decide +kernel⟩
def ts__law_lacks : TDs := (sRet true (eAnd (eCall 2 C__law_is_set (aCons (eV 1) (aCons (e1 lenV (eV 0)) aNil))) (eB (opD (cmpI fun i j => decide (j < i))) (eB (opD subD) (e1 lenV (eV 1)) (eCall 2 C__law_met_by (aCons (eV 0) (aCons (eV 1) aNil)))) (eV 2))))
def C__law_lacks : Ctr := fun args R _ => ∃ (rows : List (List Nat)) (m : Nat) (x : PyData) (X : Int), args = [.d (.list (rows.map lD)), .d x, .d (.int X)] ∧ RowsOk rows m ∧ (∀ r ∈ rows, r.Nodup) ∧ nolist x = true ∧ lenOk x ∧ R (.d (.bool (lack rows m x X)))
theorem at__law_lacks {rows : List (List Nat)} {m : Nat} {x : PyData} {X : Int} {R : SV → Prop} {RX : Exn → Prop} (v : RowsOk rows m) (nd : ∀ r ∈ rows, r.Nodup) (hx : nolist x = true) (hl : lenOk x) (h : R (.d (.bool (lack rows m x X)))) : C__law_lacks [.d (.list (rows.map lD)), .d x, .d (.int X)] R RX := ⟨rows, m, x, X, rfl, v, nd, hx, hl, h⟩
theorem ad__law_lacks : AdOk C__law_lacks ts__law_lacks N__law_lacks 3 := by
  rintro args R RX hl ⟨rows, m, x, X, rfl, v, nd, hx, hlen, h⟩
  have n40 := v.n40
  simp [ts__law_lacks, startD]
  refine at__law_is_set hx hlen ?_
  unfold lack at h
  cases e : isIdx rows.length x with
  | false =>
    rw [e] at h
    simpa using h
  | true =>
    rw [e] at h
    cases x with
    | tuple ds =>
      obtain ⟨l, rfl, hs, hlt⟩ := isIdx_nats e
      have := nodup_bound (asc_nodup hs) hlt
      simp
      refine at__law_met_by v nd (by omega) hlt ?_
      dsimp only at h
      rw [nats_back] at h
      have eu : usedN rows.length (toI l) = l.length := used_nodup (asc_nodup hs) hlt
      rw [dfc, eu] at h
      simpa using h
    | _ => simp [isIdx] at e
theorem h__law_lacks (T : Tx K mg) : Has P w K mg base (LK K) "_law_lacks" 3 ["rows", "told", "limit"] C__law_lacks := by
  obtain ⟨_, F__law_is_set, B__law_is_set, M__law_is_set, K__law_is_set⟩ := h__law_is_set (P := P) (w := w) (base := base) T
  obtain ⟨_, F__law_met_by, B__law_met_by, M__law_met_by, K__law_met_by⟩ := h__law_met_by (P := P) (w := w) (base := base) T
  have m_len : mg "len" = none := T.fr "len" (by decide)
  obtain ⟨fd, FD⟩ := T.d__law_lacks
  refine ⟨fd, ?_, FD.bindsN fun _ _ _ _ _ _ us hl => match us, hl with | [_, _, _], _ => rfl, T.g__law_lacks, FD.kp⟩
  refine fn_ok (ts := ts__law_lacks) FD sc__law_lacks (fun cdv A outer s H E hr => ?_) ad__law_lacks
  have sc := sc__law_lacks
  exact (ds_one (d_ret (dx_and (dx_call (k := 2) F__law_is_set takes_cx (by exact hr.mono (by decide)) (by rfl) M__law_is_set K__law_is_set B__law_is_set (da_cons (dx_var 1) (da_cons (dx_w fb (dx_len (by rfl) m_len (dx_var 0))) da_nil))) (dx_one (dx_gt (dx_sub (dx_len (by rfl) m_len (dx_var 1)) (dx_call (k := 1) F__law_met_by takes_cx (by exact hr.mono (by decide)) (by rfl) M__law_met_by K__law_met_by B__law_met_by (da_cons (dx_var 0) (da_cons (dx_var 1) da_nil)))) (dx_var 2))))))
abbrev N__law_is_assignment : List Str := ["turned", "told", "at"]
theorem sc__law_is_assignment : FnScope N__law_is_assignment ["turned", "told"] (defScope s__law_is_assignment) := ⟨rfl, rfl, rfl, by decide +kernel, rfl, by decide +kernel, by decide +kernel⟩
def ts__law_is_assignment : TDs := (sSeq (sIf (tOrD (tNotD (tOf (eIsi isTupS (eV 1)))) (tB2 (opD neD) (e1 lenV (eV 1)) (e1 lenV (eV 0))))
  (sRet true (eC (.bool false)))
  sNil)
  (sSeq (sFor (iRng1D (e1 lenV (eV 0))) (gN 2)
  (sIf (tOrD (tNotD (tOf (eCall 1 C__law_is_int (aCons (eIx (eV 1) (eV 2)) aNil)))) (tB2 (opD (inD true)) (eIx (eV 1) (eV 2)) (eIx (eV 0) (eV 2))))
  (sRet true (eC (.bool false)))
  sNil))
  (sRet true (eC (.bool true)))))
def C__law_is_assignment : Ctr := fun args R _ => ∃ (S A : List Int) (L : Int) (x : PyData), args = [.d (.list ((aRows S A L).map lD)), .d x] ∧ Sides S A L ∧ nolist x = true ∧ R (.d (.bool (isAsg S A L x)))
theorem at__law_is_assignment {S A : List Int} {L : Int} {x : PyData} {R : SV → Prop} {RX : Exn → Prop} (v : Sides S A L) (hx : nolist x = true) (h : R (.d (.bool (isAsg S A L x)))) : C__law_is_assignment [.d (.list ((aRows S A L).map lD)), .d x] R RX := ⟨S, A, L, x, rfl, v, hx, h⟩
theorem ad__law_is_assignment : AdOk C__law_is_assignment ts__law_is_assignment N__law_is_assignment 2 := by
  rintro args R RX hl ⟨S, A, L, x, rfl, v, hx, h⟩
  have n40 := v.a.len
  have rl : (aRows S A L).length = A.length := by simp [aRows]
  cases x with
  | tuple ds =>
    by_cases hlen : ds.length = A.length
    · simp [ts__law_is_assignment, startD, hlen, rl]
      refine ⟨by omega, forL_range (fun k δ => ∃ o, δ = [some (.d (.list ((aRows S A L).map lD))), some (.d (.tuple ds)), o] ∧ ∀ i, i < k → asgOk (rowA S A L i) (ds.getD i .none) = true) 0 A.length ?_ ?_ _ ⟨none, rfl, fun i hi => by omega⟩⟩
      · rintro k δ K hk hK ⟨o, rfl, hb⟩
        have g : atI ds (k : Int) = some (ds.getD k .none) := by rw [atI_at]; simp [hlen, hk]
        have g2 := getM (F := lD) (l := aRows S A L) (k := k) (by omega)
        have e2 : (aRows S A L)[k]'(by omega) = rowA S A L k := by simp [aRows, rowA, hk]
        rw [e2] at g2
        have mem : ds.getD k .none ∈ ds := by simp [hlen, hk]
        have nk := nolA_mem (by simpa using hx) _ mem
        have okk := okD_nol nk
        have no : asgOk (rowA S A L k) (ds.getD k .none) = false → R (.d (.bool false)) := fun hf => by
          have : isAsg S A L (.tuple ds) = false := by
            have := all_false (f := fun k => asgOk (rowA S A L k) (ds.getD k .none)) hk hf
            simp only [isAsg, this, Bool.and_false]
          rwa [this] at h
        have nxt : asgOk (rowA S A L k) (ds.getD k .none) = true → K [some (.d (.list ((aRows S A L).map lD))), some (.d (.tuple ds)), some (.d (.int (k : Nat)))] := fun ht => hK _ ⟨_, rfl, fun i hi => by
          rcases Nat.eq_or_lt_of_le (Nat.le_of_lt_succ hi) with g | g
          · rw [g]; exact ht
          · exact hb i g⟩
        generalize ds.getD k .none = z at g nk okk no nxt
        generalize rowA S A L k = row at g2 no nxt
        simp [g, g2, okk]
        cases z with
        | int i =>
          simp [isIntD, inD_lD]
          have e : asgOk row (.int i) = decide (∃ x ∈ row, (x : Int) = i) := by
            rw [Bool.eq_iff_iff]
            simp only [asgOk, Bool.and_eq_true, decide_eq_true_eq, List.contains_iff_mem]
            constructor
            · rintro ⟨h0, hm⟩; exact ⟨_, hm, by omega⟩
            · rintro ⟨x, hm, rfl⟩; exact ⟨by omega, by simpa using hm⟩
          rw [e] at no nxt
          by_cases c : ∀ x ∈ row, ¬ (x : Int) = i
          · have := no (by simpa using c)
            rw [if_pos c]
            exact this
          · have := nxt (by
              rw [decide_eq_true_eq]
              exact Classical.byContradiction fun z => c fun x hx e => z ⟨x, hx, e⟩)
            rw [if_neg c]
            exact this
        | _ => first
          | (simp [nolist] at nk; done)
          | (simp [isIntD]; exact no rfl)
      · rintro δ ⟨o, rfl, hb⟩
        have : isAsg S A L (.tuple ds) = true := by
          unfold isAsg
          rw [Bool.and_eq_true]
          refine ⟨by simp [hlen], ?_⟩
          rw [List.all_eq_true]
          exact fun k hk => hb k (List.mem_range.mp hk)
        rw [this] at h
        simpa using h
    · have : isAsg S A L (.tuple ds) = false := by simp [isAsg, hlen]
      rw [this] at h
      have e : ¬ ((ds.length : Int) = A.length) := by omega
      simpa [ts__law_is_assignment, startD, e, rl] using h
  | _ => first
    | (simp [nolist] at hx; done)
    | (simp [ts__law_is_assignment, startD, isTupD, isAsg] at h ⊢; exact h)
theorem h__law_is_assignment (T : Tx K mg) : Has P w K mg base (LK K) "_law_is_assignment" 2 ["turned", "told"] C__law_is_assignment := by
  obtain ⟨_, F__law_is_int, B__law_is_int, M__law_is_int, K__law_is_int⟩ := h__law_is_int (P := P) (w := w) (base := base) T
  have m_range : mg "range" = none := T.fr "range" (by decide)
  have m_len : mg "len" = none := T.fr "len" (by decide)
  have m_tuple : mg "tuple" = none := T.fr "tuple" (by decide)
  have m_isinstance : mg "isinstance" = none := T.fr "isinstance" (by decide)
  obtain ⟨fd, FD⟩ := T.d__law_is_assignment
  refine ⟨fd, ?_, FD.bindsN fun _ _ _ _ _ _ us hl => match us, hl with | [_, _], _ => rfl, T.g__law_is_assignment, FD.kp⟩
  refine fn_ok (ts := ts__law_is_assignment) FD sc__law_is_assignment (fun cdv A outer s H E hr => ?_) ad__law_is_assignment
  have sc := sc__law_is_assignment
  exact (ds_cons (d_if (dt_w (dw_or (dt_not (dt_of (dx_isi kit_tup (by rfl) m_tuple (by decide +kernel) (by rfl) m_isinstance (by decide +kernel) (dx_var 1)))) (dw_or1 (dt_ne (by exact hr.units) (dx_len (by rfl) m_len (dx_var 1)) (dx_len (by rfl) m_len (dx_var 0))))))
  (ds_one (d_ret dx_bool))
  ds_nil)
  (ds_cons (d_for (by exact passes_of rfl) (by rfl) (di_range1 true (by rfl) m_range (dx_len (by rfl) m_len (dx_var 0))) (dg_name 2 sc.nd)
  (ds_one (d_if (dt_w (dw_or (dt_not (dt_of (dx_call (k := 1) F__law_is_int takes_cx (by exact hr.mono (by decide)) (by rfl) M__law_is_int K__law_is_int B__law_is_int (da_cons (dx_w fb (dx_ix (dx_var 1) (dx_var 2))) da_nil)))) (dw_or1 (dt_notIn (by exact Room.u65 hr) (dx_w fb (dx_ix (dx_var 1) (dx_var 2))) (dx_w fb (dx_ix (dx_var 0) (dx_var 2)))))))
  (ds_one (d_ret dx_bool))
  ds_nil)))
  (ds_one (d_ret dx_bool))))
abbrev N__law_used : List Str := ["told", "count", "k"]
theorem sc__law_used : FnScope N__law_used ["told", "count"] (defScope s__law_used) := ⟨rfl, rfl, rfl, by decide +kernel, rfl, by decide +kernel, by decide +kernel⟩
def ts__law_used : TDs := (sRet true (e1 lenV (lcD (iRng1D (eV 1)) (gN 2) (tB2 (opD (inD false)) (eV 2) (eV 0)) (eN (eV 2)) [2])))
def C__law_used : Ctr := fun args R _ => ∃ (l : List Int) (n : Nat), args = [.d (iD l), .d (.int (n : Nat))] ∧ n ≤ 40 ∧ R (.d (.int (usedN n l : Nat)))
theorem at__law_used {l : List Int} {n : Nat} {R : SV → Prop} {RX : Exn → Prop} (h1 : n ≤ 40) (h : R (.d (.int (usedN n l : Nat)))) : C__law_used [.d (iD l), .d (.int (n : Nat))] R RX := ⟨l, n, rfl, h1, h⟩
theorem ad__law_used : AdOk C__law_used ts__law_used N__law_used 2 := by
  rintro args R RX hl ⟨l, n, rfl, h1, h⟩
  simp [ts__law_used, startD, lcD]
  refine ⟨by omega, by rw [rangeD_len]; omega, lcL_range n (fun k => decide ((k : Int) ∈ l)) kD (fun k hk k1 k0 a b => ?_) ?_⟩
  · simp [wipeD, inD_iD]
    by_cases c : (k : Int) ∈ l
    · simpa [c, kD] using a (by simp [c])
    · simpa [c] using b (by simp [c])
  · simpa [usedN] using h
theorem h__law_used (T : Tx K mg) : Has P w K mg base (LK K) "_law_used" 1 ["told", "count"] C__law_used := by
  have m_range : mg "range" = none := T.fr "range" (by decide)
  have m_len : mg "len" = none := T.fr "len" (by decide)
  obtain ⟨fd, FD⟩ := T.d__law_used
  refine ⟨fd, ?_, FD.bindsN fun _ _ _ _ _ _ us hl => match us, hl with | [_, _], _ => rfl, T.g__law_used, FD.kp⟩
  refine fn_ok (ts := ts__law_used) FD sc__law_used (fun cdv A outer s H E hr => ?_) ad__law_used
  have sc := sc__law_used
  exact (ds_one (d_ret (dx_len (by rfl) m_len (dx_lc (own := [("k", 2)]) sc.nd (di_range1 false (by rfl) m_range (dx_var 1)) (blkOk_by (own := [("k", 2)]) (N := N__law_used) (sc := defScope s__law_used) (by decide +kernel)) (fun _ _ _ _ _ => (dg_name 2 sc.nd)) (fun _ _ _ _ _ => (dts_one (dt_in (by exact Room.u65 hr) (dx_var 2) (dx_var 0)))) (fun _ _ _ _ _ => (dx_n (dx_var 2)))))))
abbrev N__law_limit : List Str := ["source", "due"]
theorem sc__law_limit : FnScope N__law_limit ["source", "due"] (defScope s__law_limit) := ⟨rfl, rfl, rfl, by decide +kernel, rfl, by decide +kernel, by decide +kernel⟩
def ts__law_limit : TDs := (sSeq (sIf (tB2 (opD eqD) (eCall 2 C__law_take (aCons (eV 0) (aCons (eC (.int 3)) aNil))) (eC (.int 0)))
  (sRet true (eCall 2 C__law_take (aCons (eV 0) (aCons (eC (.int 41)) aNil))))
  sNil)
  (sRet true (eB (opD (mmD fun i j => max i j)) (eC (.int 0)) (eB (opD (mmD fun i j => min i j)) (eC (.int 40)) (eB addV (eB (opD subD) (eV 1) (eC (.int 1))) (eCall 2 C__law_take (aCons (eV 0) (aCons (eC (.int 3)) aNil))))))))
def C__law_limit : Ctr := fun args R _ => ∃ due : Int, args = [.tok, .d (.int due)] ∧ ∀ X : Int, 0 ≤ X ∧ X ≤ 40 → R (.d (.int X))
theorem at__law_limit {due : Int} {R : SV → Prop} {RX : Exn → Prop} (h : ∀ X : Int, 0 ≤ X ∧ X ≤ 40 → R (.d (.int X))) : C__law_limit [.tok, .d (.int due)] R RX := ⟨due, rfl, h⟩
theorem ad__law_limit : AdOk C__law_limit ts__law_limit N__law_limit 2 := by
  rintro args R RX hl ⟨due, rfl, h⟩
  simp [ts__law_limit, startD]
  intro k hk
  by_cases c : k = 0
  · rw [if_pos c]
    exact fun k hk => h _ (by omega)
  · rw [if_neg c]
    exact fun k hk => h _ (by omega)
theorem h__law_limit (T : Tx K mg) : Has P w K mg base (LK K) "_law_limit" 2 ["source", "due"] C__law_limit := by
  obtain ⟨_, F__law_take, B__law_take, M__law_take, K__law_take⟩ := h__law_take (P := P) (w := w) (base := base) T
  have m_min : mg "min" = none := T.fr "min" (by decide)
  have m_max : mg "max" = none := T.fr "max" (by decide)
  obtain ⟨fd, FD⟩ := T.d__law_limit
  refine ⟨fd, ?_, FD.bindsN fun _ _ _ _ _ _ us hl => match us, hl with | [_, _], _ => rfl, T.g__law_limit, FD.kp⟩
  refine fn_ok (ts := ts__law_limit) FD sc__law_limit (fun cdv A outer s H E hr => ?_) ad__law_limit
  have sc := sc__law_limit
  exact (ds_cons (d_if (dt_eq (by exact hr.units) (dx_call (k := 1) F__law_take takes_cx (by exact hr.mono (by decide)) (by rfl) M__law_take K__law_take B__law_take (da_cons (dx_var 0) (da_cons (dx_w fb dx_int) da_nil))) dx_int)
  (ds_one (d_ret (dx_call (k := 1) F__law_take takes_cx (by exact hr.mono (by decide)) (by rfl) M__law_take K__law_take B__law_take (da_cons (dx_var 0) (da_cons (dx_w fb dx_int) da_nil)))))
  ds_nil)
  (ds_one (d_ret (dx_max2 (by rfl) (by rfl) m_max dx_int (dx_min2 (by rfl) (by rfl) m_min dx_int (dx_add (dx_sub (dx_var 1) dx_int) (dx_call (k := 1) F__law_take takes_cx (by exact hr.mono (by decide)) (by rfl) M__law_take K__law_take B__law_take (da_cons (dx_var 0) (da_cons (dx_w fb dx_int) da_nil)))))))))
abbrev N__law_account : List Str := ["rows", "turned", "taken", "mates", "limits", "at", "k", "told"]
theorem sc__law_account : FnScope N__law_account ["rows", "turned", "taken", "mates", "limits"] (defScope s__law_account) := ⟨rfl, rfl, rfl, by decide +kernel, rfl, by decide +kernel, by decide +kernel⟩
def ts__law_account : TDs := (sSeq (sFor (iRng1D (e1 lenV (eV 1))) (gN 5)
  (sIf (tB2 (opD eqD) (eIx (eV 1) (eV 5)) (eLst aNil))
  (sRet true (eTup (aCons (eC (.str "orphan")) (aCons (eN (eV 5)) aNil))))
  sNil))
  (sSeq (sIf (tB2 (opD (cmpI fun i j => decide (j < i))) (e1 lenV (lcD (iVarD 3) (gN 5) (tB2 (opD (cmpI fun i j => decide (i < j))) (eV 5) (eC (.int 0))) (eN (eV 5)) [5])) (eIx (eV 4) (eC (.int 0))))
  (sRet true (eTup (aCons (eC (.str "lost")) (aCons (eCall 3 C__law_loose (aCons (eV 0) (aCons (eV 3) (aCons (eV 2) aNil)))) aNil))))
  sNil)
  (sSeq (sIf (tB2 (opD (cmpI fun i j => decide (j < i))) (e1 lenV (lcD (iVarD 2) (gN 6) (tB2 (opD (cmpI fun i j => decide (i < j))) (eV 6) (eC (.int 0))) (eN (eV 6)) [6])) (eIx (eV 4) (eC (.int 1))))
  (sRet true (eTup (aCons (eC (.str "extra")) (aCons (eCall 3 C__law_loose (aCons (eV 1) (aCons (eV 2) (aCons (eV 3) aNil)))) aNil))))
  sNil)
  (sSeq (sSet ff 7 (eLst aNil))
  (sSeq (sFor (iRng1D (e1 lenV (eV 1))) (gN 5)
  (sIf (tB2 (opD (cmpI fun i j => decide (j ≤ i))) (eIx (eV 2) (eV 5)) (eC (.int 0)))
  (sApp 7 (eN (eIx (eV 2) (eV 5))))
  (sApp 7 (eN (eIx (eIx (eV 1) (eV 5)) (eNeg (eC (.int 1))))))))
  (sRet true (eTup (aCons (eC (.str "matched")) (aCons (e1 (un1 tupD) (eV 7)) aNil)))))))))
theorem filt_map {α : Type} (T : List (Option α)) : (T.filter Option.isSome).length = (T.filterMap id).length := by
  induction T with
  | nil => rfl
  | cons a r ih => cases a <;> simp [ih]
theorem cnt_sends {S A : List Int} {L : Int} {T : List (Option Nat)} (M : Mat S A L T) : (T.filter Option.isSome).length = ((List.range S.length).filter fun s => (N50.mt T s).isSome).length := by
  rw [filt_map]
  refine nodup_len ?_ (List.nodup_range.filter _) fun x => ?_
  · rw [List.nodup_iff_pairwise_ne]
    have : T.Pairwise fun a b => ∀ s, a = some s → b = some s → False := by
      rw [List.pairwise_iff_getElem]
      intro i j hi hj hij s h1 h2
      have := M.inj i j s (by rw [List.getElem?_eq_getElem hi, h1]) (by rw [List.getElem?_eq_getElem hj, h2])
      omega
    refine this.filterMap id fun a a' h b hb b' hb' e => ?_
    subst e
    exact h b hb hb'
  · simp only [List.mem_filterMap, id, exists_eq_right, List.mem_filter, List.mem_range]
    constructor
    · intro h
      obtain ⟨k, hk, e⟩ := List.getElem_of_mem h
      have e2 : T[k]? = some (some x) := by rw [List.getElem?_eq_getElem hk, e]
      refine ⟨(M.pr k x e2).1, ?_⟩
      rw [(mt_some M).mpr (tk_some.mpr e2)]; rfl
    · rintro ⟨_, h⟩
      obtain ⟨k, e⟩ := Option.isSome_iff_exists.mp h
      exact List.mem_of_getElem? (tk_some.mp ((mt_some M).mp e))
theorem lostN {S A : List Int} {L : Int} (v : Sides S A L) : ((((List.range S.length).map fun s => N50.mt (grd S L 0 A) s).filter Option.isNone).length : Int) = (S.length : Int) - (cntS S A L : Nat) := by
  have M := grd_mat v.S A L
  have h1 := cnt_sends M
  have h2 := filt_len (fun s => (N50.mt (grd S L 0 A) s).isSome) (List.range S.length)
  have h3 : (((List.range S.length).map fun s => N50.mt (grd S L 0 A) s).filter Option.isNone).length = ((List.range S.length).filter fun s => !(N50.mt (grd S L 0 A) s).isSome).length := by
    rw [List.filter_map, List.length_map]
    congr 1
    refine List.filter_congr fun s _ => ?_
    cases h : N50.mt (grd S L 0 A) s <;> simp [h]
  rw [List.length_range] at h2
  unfold cntS
  omega
theorem extraN {S A : List Int} {L : Int} : (((grd S L 0 A).filter Option.isNone).length : Int) = (A.length : Int) - (cntS S A L : Nat) := by
  have h2 := filt_len Option.isSome (grd S L 0 A)
  have h3 : ((grd S L 0 A).filter Option.isNone) = (grd S L 0 A).filter fun s => !s.isSome := by
    refine List.filter_congr fun s _ => ?_
    cases s <;> rfl
  rw [grd_len] at h2
  rw [h3]
  unfold cntS
  omega
def mtL (S A : List Int) (L : Int) : List (Option Nat) := (List.range S.length).map fun s => N50.mt (grd S L 0 A) s
def C__law_account : Ctr := fun args R _ => ∃ (S A : List Int) (L X Y : Int), args = [.d (.list ((sRows S A L).map lD)), .d (.list ((aRows S A L).map lD)), .d (.list ((grd S L 0 A).map zD)), .d (.list ((mtL S A L).map zD)), .d (.list [.int X, .int Y])] ∧ Sides S A L ∧ R (.d (acc S A L X Y))
theorem at__law_account {S A : List Int} {L X Y : Int} {R : SV → Prop} {RX : Exn → Prop} (v : Sides S A L) (h : R (.d (acc S A L X Y))) : C__law_account [.d (.list ((sRows S A L).map lD)), .d (.list ((aRows S A L).map lD)), .d (.list ((grd S L 0 A).map zD)), .d (.list ((mtL S A L).map zD)), .d (.list [.int X, .int Y])] R RX := ⟨S, A, L, X, Y, rfl, v, h⟩
theorem ad__law_account : AdOk C__law_account ts__law_account N__law_account 5 := by
  rintro args R RX hl ⟨S, A, L, X, Y, rfl, v, h⟩
  have lb := line_big
  have hS := v.s.len
  have hA := v.a.len
  have rl : (aRows S A L).length = A.length := by simp [aRows]
  have tl : (grd S L 0 A).length = A.length := grd_len ..
  have rowAt : ∀ k, k < A.length → atI ((aRows S A L).map lD) (k : Int) = some (lD (rowA S A L k)) := fun k hk => by
    rw [atI_at, List.getElem?_map]; simp [aRows, rowA, hk]
  simp [ts__law_account, startD, rl]
  refine ⟨by omega, forL_range (fun k δ => ∃ o, δ = [some (.d (.list ((sRows S A L).map lD))), some (.d (.list ((aRows S A L).map lD))), some (.d (.list ((grd S L 0 A).map zD))), some (.d (.list ((mtL S A L).map zD))), some (.d (.list [.int X, .int Y])), o, none, none] ∧ ∀ i, i < k → (rowA S A L i).isEmpty = false) 0 A.length ?_ ?_ _ ⟨none, rfl, fun i hi => by omega⟩⟩
  · rintro k δ K hk hK ⟨o, rfl, hb⟩
    simp [rowAt k hk, eqD_nilL]
    cases e : (rowA S A L k).isEmpty with
    | true =>
      have e' := List.isEmpty_iff.mp e
      simp [e']
      have : orph S A L = some k := by
        unfold orph
        rw [List.find?_range_eq_some]
        exact ⟨e, by simp [hk], fun j hj => by rw [hb j hj]; rfl⟩
      simp only [acc, this] at h
      exact h
    | false =>
      have e' : rowA S A L k ≠ [] := by intro z; rw [z] at e; cases e
      simp [e']
      refine hK _ ⟨_, rfl, fun i hi => ?_⟩
      rcases Nat.eq_or_lt_of_le (Nat.le_of_lt_succ hi) with g | g
      · subst g; exact e
      · exact hb i g
  · rintro δ ⟨o, rfl, hb⟩
    have or : orph S A L = none := by
      unfold orph
      rw [List.find?_range_eq_none]
      exact fun j hj => by rw [hb j hj]; rfl
    simp only [acc, or] at h
    have c1 : (((mtL S A L).filter Option.isNone).length : Int) = (S.length : Int) - (cntS S A L : Nat) := lostN v
    have c2 := extraN (S := S) (A := A) (L := L)
    rw [← c1, ← c2] at h
    have ml : (mtL S A L).length = S.length := by simp [mtL]
    simp [lcD, ownSeq]
    refine ⟨by omega, lcL_of zD Option.isNone zD (mtL S A L) [] (fun x hx k1 k0 a b => ?_) ?_⟩
    · cases x with
      | none => simpa [wipeD, zD] using a rfl
      | some k =>
        have ne : ¬ ((k : Int) < 0) := by omega
        simpa [wipeD, zD, ne] using b rfl
    generalize (mtL S A L).filter Option.isNone = q1 at h
    simp
    by_cases e1 : X < (q1.length : Int)
    · rw [if_pos e1] at h ⊢
      refine at__law_loose (wkS v) ?_
      simpa using h
    rw [if_neg e1] at h ⊢
    refine ⟨by omega, lcL_of zD Option.isNone zD (grd S L 0 A) [] (fun x hx k1 k0 a b => ?_) ?_⟩
    · cases x with
      | none => simpa [wipeD, zD] using a rfl
      | some k =>
        have ne : ¬ ((k : Int) < 0) := by omega
        simpa [wipeD, zD, ne] using b rfl
    generalize (grd S L 0 A).filter Option.isNone = q2 at h
    have x1 : atI [PyData.int X, .int Y] 1 = some (.int Y) := rfl
    simp [x1]
    by_cases e2 : Y < (q2.length : Int)
    · rw [if_pos e2] at h ⊢
      refine at__law_loose (wkA v) ?_
      simpa using h
    rw [if_neg e2] at h ⊢
    simp [rl]
    refine ⟨by omega, forL_range (fun k δ => ∃ (P : List Nat) (o5 o6 : Option SV), δ = [some (.d (.list ((sRows S A L).map lD))), some (.d (.list ((aRows S A L).map lD))), some (.d (.list ((grd S L 0 A).map zD))), some (.d (.list ((mtL S A L).map zD))), some (.d (.list [.int X, .int Y])), o5, o6, some (.own (P.map kD))] ∧ P = (List.range k).map fun k => (tk (grd S L 0 A) k).getD ((rowA S A L k).getLastD 0)) 0 A.length ?_ ?_ _ ⟨[], o, none, rfl, rfl⟩⟩
    · rintro k δ K hk hK ⟨P, o5, o6, rfl, hP⟩
      have ps : P.length < sizeLine := by rw [hP]; simp; omega
      have g : atI ((grd S L 0 A).map zD) (k : Int) = some (zD (tk (grd S L 0 A) k)) := by
        rw [atI_at, List.getElem?_map]
        have : k < (grd S L 0 A).length := by omega
        simp [tk, this]
      have next : ∀ n : Nat, n = (tk (grd S L 0 A) k).getD ((rowA S A L k).getLastD 0) → P.length < sizeLine ∧ K [some (.d (.list ((sRows S A L).map lD))), some (.d (.list ((aRows S A L).map lD))), some (.d (.list ((grd S L 0 A).map zD))), some (.d (.list ((mtL S A L).map zD))), some (.d (.list [.int X, .int Y])), some (.d (.int (k : Nat))), o6, some (.own (P.map kD ++ [kD n]))] := fun n hn =>
        ⟨ps, hK _ ⟨P ++ [n], _, _, by rw [List.map_append]; rfl, by rw [List.range_succ, List.map_append, hP, hn]; rfl⟩⟩
      have hne : rowA S A L k ≠ [] := fun z => by
        have := hb k hk
        rw [z] at this; cases this
      have el := ix_last _ hne
      generalize tk (grd S L 0 A) k = x at g next
      cases x with
      | some s =>
        have := next s rfl
        simpa [g, zD, kD] using this
      | none =>
        have := next ((rowA S A L k).getLastD 0) rfl
        simp only [zD] at g
        simp [g, rowAt k hk]
        simp only [lD, ixV_lst, el]
        simpa using this
    · rintro δ ⟨P, o5, o6, rfl, hP⟩
      have : P = asg S A L := hP
      subst this
      simpa [nol_k, nD] using h
theorem h__law_account (T : Tx K mg) : Has P w K mg base (LK K) "_law_account" 2 ["rows", "turned", "taken", "mates", "limits"] C__law_account := by
  obtain ⟨_, F__law_loose, B__law_loose, M__law_loose, K__law_loose⟩ := h__law_loose (P := P) (w := w) (base := base) T
  have m_tuple : mg "tuple" = none := T.fr "tuple" (by decide)
  have m_range : mg "range" = none := T.fr "range" (by decide)
  have m_len : mg "len" = none := T.fr "len" (by decide)
  obtain ⟨fd, FD⟩ := T.d__law_account
  refine ⟨fd, ?_, FD.bindsN fun _ _ _ _ _ _ us hl => match us, hl with | [_, _, _, _, _], _ => rfl, T.g__law_account, FD.kp⟩
  refine fn_ok (ts := ts__law_account) FD sc__law_account (fun cdv A outer s H E hr => ?_) ad__law_account
  have sc := sc__law_account
  exact (ds_cons (d_for (by exact passes_of rfl) (by rfl) (di_range1 true (by rfl) m_range (dx_len (by rfl) m_len (dx_var 1))) (dg_name 5 sc.nd)
  (ds_one (d_if (dt_eq (by exact hr.units) (dx_w fb (dx_ix (dx_var 1) (dx_var 5))) (dx_lst da_nil))
  (ds_one (d_ret (dx_tup (da_cons dx_str (da_cons (dx_n (dx_var 5)) da_nil)))))
  ds_nil)))
  (ds_cons (d_if (dt_gt (dx_len (by rfl) m_len (dx_lc (own := [("at", 5)]) sc.nd (di_var 3) (blkOk_by (own := [("at", 5)]) (N := N__law_account) (sc := defScope s__law_account) (by decide +kernel)) (fun _ _ _ _ _ => (dg_name 5 sc.nd)) (fun _ _ _ _ _ => (dts_one (dt_lt (dx_var 5) dx_int))) (fun _ _ _ _ _ => (dx_n (dx_var 5))))) (dx_w fb (dx_ix (dx_var 4) dx_int)))
  (ds_one (d_ret (dx_tup (da_cons dx_str (da_cons (dx_call (k := 1) F__law_loose takes_cx (by exact hr.mono (by decide)) (by rfl) M__law_loose K__law_loose B__law_loose (da_cons (dx_var 0) (da_cons (dx_var 3) (da_cons (dx_var 2) da_nil)))) da_nil)))))
  ds_nil)
  (ds_cons (d_if (dt_gt (dx_len (by rfl) m_len (dx_lc (own := [("k", 6)]) sc.nd (di_var 2) (blkOk_by (own := [("k", 6)]) (N := N__law_account) (sc := defScope s__law_account) (by decide +kernel)) (fun _ _ _ _ _ => (dg_name 6 sc.nd)) (fun _ _ _ _ _ => (dts_one (dt_lt (dx_var 6) dx_int))) (fun _ _ _ _ _ => (dx_n (dx_var 6))))) (dx_w fb (dx_ix (dx_var 4) dx_int)))
  (ds_one (d_ret (dx_tup (da_cons dx_str (da_cons (dx_call (k := 1) F__law_loose takes_cx (by exact hr.mono (by decide)) (by rfl) M__law_loose K__law_loose B__law_loose (da_cons (dx_var 1) (da_cons (dx_var 2) (da_cons (dx_var 3) da_nil)))) da_nil)))))
  ds_nil)
  (ds_cons (d_set 7 sc.nd (dx_lst da_nil))
  (ds_cons (d_for (by exact passes_of rfl) (by rfl) (di_range1 true (by rfl) m_range (dx_len (by rfl) m_len (dx_var 1))) (dg_name 5 sc.nd)
  (ds_one (d_if (dt_ge (dx_w fb (dx_ix (dx_var 2) (dx_var 5))) dx_int)
  (ds_one (d_app 7 (dx_n (dx_w fb (dx_ix (dx_var 2) (dx_var 5))))))
  (ds_one (d_app 7 (dx_n (dx_w fb (dx_ix (dx_w fb (dx_ix (dx_var 1) (dx_var 5))) (dx_neg dx_int)))))))))
  (ds_one (d_ret (dx_tup (da_cons dx_str (da_cons (dx_tupc (by rfl) m_tuple (dx_var 7)) da_nil))))))))))
abbrev N__law_shows : List Str := ["rows", "turned", "limits", "word", "told", "used"]
theorem sc__law_shows : FnScope N__law_shows ["rows", "turned", "limits", "word", "told"] (defScope s__law_shows) := ⟨rfl, rfl, rfl, by decide +kernel, rfl, by decide +kernel, by decide +kernel⟩
def ts__law_shows : TDs := (sSeq (sIf (tB2 (opD eqD) (eV 3) (eC (.str "orphan")))
  (sRet true (eAnd (eCall 1 C__law_is_int (aCons (eV 4) aNil)) (eAnd (eB (opD (cmpI fun i j => decide (i ≤ j))) (eC (.int 0)) (eV 4)) (eAnd (eB (opD (cmpI fun i j => decide (i < j))) (eV 4) (e1 lenV (eV 1))) (eB (opD eqD) (eIx (eV 1) (eV 4)) (eLst aNil))))))
  sNil)
  (sSeq (sIf (tB2 (opD eqD) (eV 3) (eC (.str "lost")))
  (sRet true (eCall 3 C__law_lacks (aCons (eV 0) (aCons (eV 4) (aCons (eIx (eV 2) (eC (.int 0))) aNil)))))
  sNil)
  (sSeq (sIf (tB2 (opD eqD) (eV 3) (eC (.str "extra")))
  (sRet true (eCall 3 C__law_lacks (aCons (eV 1) (aCons (eV 4) (aCons (eIx (eV 2) (eC (.int 1))) aNil)))))
  sNil)
  (sSeq (sIf (tNotD (tOf (eCall 2 C__law_is_assignment (aCons (eV 1) (aCons (eV 4) aNil)))))
  (sRet true (eC (.bool false)))
  sNil)
  (sSeq (sSet ff 5 (eCall 2 C__law_used (aCons (eV 4) (aCons (e1 lenV (eV 0)) aNil))))
  (sRet true (eAnd (eB (opD (cmpI fun i j => decide (i ≤ j))) (eB (opD subD) (e1 lenV (eV 0)) (eV 5)) (eIx (eV 2) (eC (.int 0)))) (eB (opD (cmpI fun i j => decide (i ≤ j))) (eB (opD subD) (e1 lenV (eV 1)) (eV 5)) (eIx (eV 2) (eC (.int 1)))))))))))
noncomputable def shws (S A : List Int) (L X Y : Int) (w : Str) (t : PyData) : Bool := if w = "orphan" then orpB (aRows S A L) t else if w = "lost" then lack (sRows S A L) A.length t X else if w = "extra" then lack (aRows S A L) S.length t Y else shwM S A L X Y t
def C__law_shows : Ctr := fun args R _ => ∃ (S A : List Int) (L X Y : Int) (w : Str) (t : PyData), args = [.d (.list ((sRows S A L).map lD)), .d (.list ((aRows S A L).map lD)), .d (.list [.int X, .int Y]), .d (.str w), .d t] ∧ Sides S A L ∧ nolist t = true ∧ lenOk t ∧ R (.d (.bool (shws S A L X Y w t)))
theorem at__law_shows {S A : List Int} {L X Y : Int} {w : Str} {t : PyData} {R : SV → Prop} {RX : Exn → Prop} (v : Sides S A L) (ht : nolist t = true) (hl : lenOk t) (h : R (.d (.bool (shws S A L X Y w t)))) : C__law_shows [.d (.list ((sRows S A L).map lD)), .d (.list ((aRows S A L).map lD)), .d (.list [.int X, .int Y]), .d (.str w), .d t] R RX := ⟨S, A, L, X, Y, w, t, rfl, v, ht, hl, h⟩
theorem sRows_nd {S A : List Int} {L : Int} : ∀ r ∈ sRows S A L, r.Nodup := fun r hr => by
  obtain ⟨s, _, rfl⟩ := List.mem_map.mp hr
  exact asc_nodup (sRow_asc A L s)
theorem aRows_nd {S A : List Int} {L : Int} : ∀ r ∈ aRows S A L, r.Nodup := fun r hr => by
  obtain ⟨s, _, rfl⟩ := List.mem_map.mp hr
  exact asc_nodup (aRow_asc S L s)
theorem ad__law_shows : AdOk C__law_shows ts__law_shows N__law_shows 5 := by
  rintro args R RX hl ⟨S, A, L, X, Y, w, t, rfl, v, ht, hlen, h⟩
  have hS := v.s.len
  have okk := okD_nol ht
  have sl : (sRows S A L).length = S.length := by simp [sRows]
  have al : (aRows S A L).length = A.length := by simp [aRows]
  have x0 : atI [PyData.int X, .int Y] 0 = some (.int X) := rfl
  have x1 : atI [PyData.int X, .int Y] 1 = some (.int Y) := rfl
  unfold shws at h
  simp [ts__law_shows, startD, x1]
  by_cases c1 : w = "orphan"
  · rw [if_pos c1] at h ⊢
    simp [okk]
    cases t with
    | int i =>
      simp [isIntD]
      by_cases c : 0 ≤ i
      · by_cases c2 : i < A.length
        · have hi : i.toNat < (aRows S A L).length := by omega
          have g := getM (F := lD) hi
          rw [show ((i.toNat : Nat) : Int) = i by omega] at g
          have eg : (aRows S A L).getD i.toNat [] = (aRows S A L)[i.toNat] := by simp [hi]
          simp only [orpB, c, al, c2, eg] at h
          simp [c, al, c2, g, eqD_nilL]
          simpa using h
        · have e : orpB (aRows S A L) (.int i) = false := by simp [orpB, al, c2]
          rw [e] at h
          simpa [c, al, c2] using h
      · have e : orpB (aRows S A L) (.int i) = false := by simp [orpB, c]
        rw [e] at h
        simpa [c] using h
    | _ => first
      | (simp [nolist] at ht; done)
      | (simp [isIntD, orpB] at h ⊢; exact h)
  rw [if_neg c1] at h ⊢
  by_cases c2 : w = "lost"
  · rw [if_pos c2] at h ⊢
    exact at__law_lacks (sRows_ok v) sRows_nd ht hlen h
  rw [if_neg c2] at h ⊢
  by_cases c3 : w = "extra"
  · rw [if_pos c3] at h ⊢
    exact at__law_lacks (aRows_ok v) aRows_nd ht hlen h
  rw [if_neg c3] at h ⊢
  refine at__law_is_assignment v ht ?_
  unfold shwM at h
  cases e : isAsg S A L t with
  | false =>
    rw [e] at h
    simpa using h
  | true =>
    rw [e] at h
    cases t with
    | tuple ds =>
      obtain ⟨e1, e2, e3⟩ := asg_ints e
      simp [sl]
      rw [e1]
      refine at__law_used hS ?_
      simp [al]
      by_cases c : (S.length : Int) - (usedN S.length (ds.map intV) : Nat) ≤ X
      · simpa [c] using h
      · simpa [c] using h
    | _ => simp [isAsg] at e
theorem h__law_shows (T : Tx K mg) : Has P w K mg base (LK K) "_law_shows" 4 ["rows", "turned", "limits", "word", "told"] C__law_shows := by
  obtain ⟨_, F__law_used, B__law_used, M__law_used, K__law_used⟩ := h__law_used (P := P) (w := w) (base := base) T
  obtain ⟨_, F__law_is_assignment, B__law_is_assignment, M__law_is_assignment, K__law_is_assignment⟩ := h__law_is_assignment (P := P) (w := w) (base := base) T
  obtain ⟨_, F__law_lacks, B__law_lacks, M__law_lacks, K__law_lacks⟩ := h__law_lacks (P := P) (w := w) (base := base) T
  obtain ⟨_, F__law_is_int, B__law_is_int, M__law_is_int, K__law_is_int⟩ := h__law_is_int (P := P) (w := w) (base := base) T
  have m_len : mg "len" = none := T.fr "len" (by decide)
  obtain ⟨fd, FD⟩ := T.d__law_shows
  refine ⟨fd, ?_, FD.bindsN fun _ _ _ _ _ _ us hl => match us, hl with | [_, _, _, _, _], _ => rfl, T.g__law_shows, FD.kp⟩
  refine fn_ok (ts := ts__law_shows) FD sc__law_shows (fun cdv A outer s H E hr => ?_) ad__law_shows
  have sc := sc__law_shows
  exact (ds_cons (d_if (dt_eq (by exact hr.units) (dx_var 3) dx_str)
  (ds_one (d_ret (dx_and (dx_call (k := 1) F__law_is_int takes_cx (by exact hr.mono (by decide)) (by rfl) M__law_is_int K__law_is_int B__law_is_int (da_cons (dx_var 4) da_nil)) (dx_and (dx_le dx_int (dx_var 4)) (dx_and (dx_lt (dx_var 4) (dx_len (by rfl) m_len (dx_var 1))) (dx_one (dx_eq (by exact hr.units) (dx_w fb (dx_ix (dx_var 1) (dx_var 4))) (dx_lst da_nil))))))))
  ds_nil)
  (ds_cons (d_if (dt_eq (by exact hr.units) (dx_var 3) dx_str)
  (ds_one (d_ret (dx_call (k := 3) F__law_lacks takes_cx (by exact hr.mono (by decide)) (by rfl) M__law_lacks K__law_lacks B__law_lacks (da_cons (dx_var 0) (da_cons (dx_var 4) (da_cons (dx_w fb (dx_ix (dx_var 2) dx_int)) da_nil))))))
  ds_nil)
  (ds_cons (d_if (dt_eq (by exact hr.units) (dx_var 3) dx_str)
  (ds_one (d_ret (dx_call (k := 3) F__law_lacks takes_cx (by exact hr.mono (by decide)) (by rfl) M__law_lacks K__law_lacks B__law_lacks (da_cons (dx_var 1) (da_cons (dx_var 4) (da_cons (dx_w fb (dx_ix (dx_var 2) dx_int)) da_nil))))))
  ds_nil)
  (ds_cons (d_if (dt_not (dt_of (dx_call (k := 2) F__law_is_assignment takes_cx (by exact hr.mono (by decide)) (by rfl) M__law_is_assignment K__law_is_assignment B__law_is_assignment (da_cons (dx_var 1) (da_cons (dx_var 4) da_nil)))))
  (ds_one (d_ret dx_bool))
  ds_nil)
  (ds_cons (d_set 5 sc.nd (dx_call (k := 1) F__law_used takes_cx (by exact hr.mono (by decide)) (by rfl) M__law_used K__law_used B__law_used (da_cons (dx_var 4) (da_cons (dx_w fb (dx_len (by rfl) m_len (dx_var 0))) da_nil))))
  (ds_one (d_ret (dx_and (dx_le (dx_sub (dx_len (by rfl) m_len (dx_var 0)) (dx_var 5)) (dx_w fb (dx_ix (dx_var 2) dx_int))) (dx_one (dx_le (dx_sub (dx_len (by rfl) m_len (dx_var 1)) (dx_var 5)) (dx_w fb (dx_ix (dx_var 2) dx_int))))))))))))
abbrev N__law_spoilt : List Str := ["source", "told", "kind", "number", "at", "k"]
theorem sc__law_spoilt : FnScope N__law_spoilt ["source", "told"] (defScope s__law_spoilt) := ⟨rfl, rfl, rfl, by decide +kernel, rfl, by decide +kernel, by decide +kernel⟩
def ts__law_spoilt : TDs := (sSeq (sSet ff 2 (eCall 2 C__law_take (aCons (eV 0) (aCons (eC (.int 7)) aNil))))
  (sSeq (sSet ff 3 (eB (opD subD) (eCall 2 C__law_take (aCons (eV 0) (aCons (eC (.int 42)) aNil))) (eC (.int 1))))
  (sSeq (sIf (tOrD (tNotD (tOf (eIsi isTupS (eV 1)))) (tB2 (opD eqD) (eV 2) (eC (.int 0))))
  (sRet false (eIx (eLst (aCons (eV 1) (aCons (eV 3) (aCons (eC .none) (aCons (eC (.bool true)) (aCons (eTup aNil) (aCons (eTup (aCons (eC (.int 0)) aNil)) aNil))))))) (eCall 2 C__law_take (aCons (eV 0) (aCons (eC (.int 6)) aNil)))))
  sNil)
  (sSeq (sSet ff 4 (eCall 2 C__law_take (aCons (eV 0) (aCons (eB addV (e1 lenV (eV 1)) (eC (.int 1))) aNil))))
  (sSeq (sIf (tB2 (opD eqD) (eV 2) (eC (.int 1)))
  (sRet true (eB addV (eSl (eV 1) oNone (oSome (eV 4))) (eSl (eV 1) (oSome (eB addV (eV 4) (eC (.int 1)))) oNone)))
  sNil)
  (sSeq (sIf (tB2 (opD eqD) (eV 2) (eC (.int 2)))
  (sRet true (eB addV (eB addV (eSl (eV 1) oNone (oSome (eV 4))) (eTup (aCons (eN (eV 3)) aNil))) (eSl (eV 1) (oSome (eB addV (eV 4) (eC (.int 1)))) oNone)))
  sNil)
  (sSeq (sIf (tB2 (opD eqD) (eV 2) (eC (.int 3)))
  (sRet true (eB addV (eB addV (eSl (eV 1) oNone (oSome (eV 4))) (eTup (aCons (eN (eV 3)) aNil))) (eSl (eV 1) (oSome (eV 4)) oNone)))
  sNil)
  (sSeq (sIf (tB2 (opD eqD) (eV 2) (eC (.int 4)))
  (sRet true (eB addV (eB addV (eSl (eV 1) oNone (oSome (eV 4))) (eTup (aCons (eC (.bool true)) aNil))) (eSl (eV 1) (oSome (eB addV (eV 4) (eC (.int 1)))) oNone)))
  sNil)
  (sSeq (sIf (tB2 (opD eqD) (eV 2) (eC (.int 5)))
  (sRet true (e1 (un1 tupD) (lcD (iRng1D (e1 lenV (eV 1))) (gN 5) tYesD (eN (eIx (eV 1) (eB (opD subD) (eB (opD subD) (e1 lenV (eV 1)) (eC (.int 1))) (eV 5)))) [5])))
  sNil)
  (sRet true (eTup aNil)))))))))))
def lenS (n : Nat) : PyData → Prop
  | .tuple ds => ds.length ≤ n
  | _ => True
def C__law_spoilt : Ctr := fun args R _ => ∃ t : PyData, args = [.tok, .d t] ∧ nolist t = true ∧ lenS 45 t ∧ ∀ t', nolist t' = true → lenOk t' → R (.d t')
theorem at__law_spoilt {t : PyData} {R : SV → Prop} {RX : Exn → Prop} (h1 : nolist t = true) (h2 : lenS 45 t) (h : ∀ t', nolist t' = true → lenOk t' → R (.d t')) : C__law_spoilt [.tok, .d t] R RX := ⟨t, rfl, h1, h2, h⟩
theorem nol_app {xs ys : List PyData} (h1 : nolistA xs = true) (h2 : nolistA ys = true) : nolistA (xs ++ ys) = true := nolA_of fun y hy => by
  rcases List.mem_append.mp hy with hy | hy
  · exact nolA_mem h1 y hy
  · exact nolA_mem h2 y hy
theorem ad__law_spoilt : AdOk C__law_spoilt ts__law_spoilt N__law_spoilt 2 := by
  rintro args R RX hl ⟨t, rfl, ht, hlen, h⟩
  have lb := line_big
  have okk := okD_nol ht
  have any : ∀ (nb : Int) (j : Nat), (j : Int) < 6 → ∃ z, atI [t, .int nb, .none, .bool true, .tuple [], .tuple [.int 0]] (j : Int) = some z ∧ nolist z = true ∧ lenOk z := fun nb j hj => by
    have hj : j < 6 := by omega
    rw [atI_at]
    rcases j with _ | _ | _ | _ | _ | _ | j
    · refine ⟨t, rfl, ht, ?_⟩
      cases t <;> simp [lenS, lenOk] at hlen ⊢
      omega
    · exact ⟨_, rfl, rfl, trivial⟩
    · exact ⟨_, rfl, rfl, trivial⟩
    · exact ⟨_, rfl, rfl, trivial⟩
    · exact ⟨_, rfl, rfl, by simp [lenOk]⟩
    · exact ⟨_, rfl, rfl, by simp [lenOk]⟩
    · omega
  have pick : ∀ (nb : Int) (j : Nat), (j : Int) < 6 → match atI [t, .int nb, .none, .bool true, .tuple [], .tuple [.int 0]] (j : Int) with | some z => nolist z = true ∧ R (.d z) | none => False := fun nb j hj => by
    obtain ⟨z, e, h1, h2⟩ := any nb j hj
    rw [e]
    exact ⟨h1, h z h1 h2⟩
  simp [ts__law_spoilt, startD]
  intro kd hkd nb hnb
  cases t with
  | tuple ds =>
    simp [lenS] at hlen
    simp at ht
    have nt : ∀ k, nolistA (ds.take k) = true := fun k => nolA_of fun y hy => nolA_mem ht y (List.mem_of_mem_take hy)
    have ndr : ∀ k, nolistA (ds.drop k) = true := fun k => nolA_of fun y hy => nolA_mem ht y (List.mem_of_mem_drop hy)
    have lt : ∀ k, (ds.take k).length ≤ 45 := fun k => by rw [List.length_take]; omega
    have ld : ∀ k, (ds.drop k).length ≤ 45 := fun k => by rw [List.length_drop]; omega
    simp
    by_cases c0 : kd = 0
    · rw [if_pos c0]
      exact pick _
    rw [if_neg c0]
    refine ⟨by omega, by omega, fun k hk => ?_⟩
    have ct : cutL ds none (some (k : Int)) = ds.take k := cutL_to ds k
    have cf : cutL ds (some (k : Int)) none = ds.drop k := cutL_from ds k
    have cf1 : cutL ds (some ((k : Int) + 1)) none = ds.drop (k + 1) := by
      have := cutL_from ds (k + 1)
      rwa [show ((k + 1 : Nat) : Int) = (k : Int) + 1 by omega] at this
    have l1 := lt k
    have l2 := ld k
    have l3 := ld (k + 1)
    have n1 := nt k
    have n2 := ndr k
    have n3 := ndr (k + 1)
    rw [ct, cf, cf1]
    generalize ds.take k = a at l1 n1
    generalize ds.drop k = b at l2 n2
    generalize ds.drop (k + 1) = c at l3 n3
    have one : ∀ z, nolist z = true → nolistA (a ++ [z]) = true := fun z hz => nol_app n1 (by simp [hz])
    have fin : ∀ (z : PyData) (d : List PyData), nolist z = true → nolistA d = true → d.length ≤ 45 → R (.d (.tuple (a ++ z :: d))) := fun z d hz hd hl => h _ (by simpa using nol_app n1 (by simp [hz, hd])) (by simp [lenOk]; omega)
    by_cases c1 : (kd : Int) = 1
    · rw [if_pos c1]
      exact ⟨ht, n1, n3, by omega, h _ (nol_app n1 n3) (by simp [lenOk]; omega)⟩
    rw [if_neg c1]
    by_cases c2 : (kd : Int) = 2
    · rw [if_pos c2]
      exact ⟨ht, n1, by omega, ht, one _ rfl, n3, by omega, fin _ _ rfl n3 l3⟩
    rw [if_neg c2]
    by_cases c3 : (kd : Int) = 3
    · rw [if_pos c3]
      exact ⟨ht, n1, by omega, ht, one _ rfl, n2, by omega, fin _ _ rfl n2 l2⟩
    rw [if_neg c3]
    by_cases c4 : (kd : Int) = 4
    · rw [if_pos c4]
      exact ⟨ht, n1, by omega, ht, one _ rfl, n3, by omega, fin _ _ rfl n3 l3⟩
    rw [if_neg c4]
    by_cases c5 : (kd : Int) = 5
    · rw [if_pos c5]
      simp [lcD]
      refine ⟨by omega, by rw [rangeD_len]; omega, lcL_range ds.length (fun _ => true) (fun k => ds.getD (ds.length - 1 - k) .none) (fun k hk k1 k0 a b => ?_) ?_⟩
      · have g : atI ds ((ds.length : Int) - 1 - (k : Int)) = some (ds.getD (ds.length - 1 - k) .none) := by
          rw [show (ds.length : Int) - 1 - (k : Int) = ((ds.length - 1 - k : Nat) : Int) by omega, atI_at]
          have : ds.length - 1 - k < ds.length := by omega
          simp [this]
        have mem : ds.getD (ds.length - 1 - k) .none ∈ ds := by
          have : ds.length - 1 - k < ds.length := by omega
          simp [this]
        have nn := nolA_mem ht _ mem
        have := a rfl
        generalize ds.getD (ds.length - 1 - k) .none = z at g nn this
        simp [wipeD, g, nn]
        exact this
      · rw [filt_true]
        have nn : nolistA ([] ++ (List.range ds.length).map fun k => ds.getD (ds.length - 1 - k) .none) = true := nolA_of fun y hy => by
          rw [List.nil_append] at hy
          obtain ⟨k, hk, rfl⟩ := List.mem_map.mp hy
          have : ds.length - 1 - k < ds.length := by have := List.mem_range.mp hk; omega
          exact nolA_mem ht _ (by simp [this])
        exact ⟨nn, h _ nn (by simp [lenOk]; omega)⟩
    rw [if_neg c5]
    exact h _ rfl (by simp [lenOk])
  | _ => first
    | (simp [nolist] at ht; done)
    | (simp [isTupD]
       exact pick _)
theorem h__law_spoilt (T : Tx K mg) : Has P w K mg base (LK K) "_law_spoilt" 2 ["source", "told"] C__law_spoilt := by
  obtain ⟨_, F__law_take, B__law_take, M__law_take, K__law_take⟩ := h__law_take (P := P) (w := w) (base := base) T
  have m_range : mg "range" = none := T.fr "range" (by decide)
  have m_len : mg "len" = none := T.fr "len" (by decide)
  have m_tuple : mg "tuple" = none := T.fr "tuple" (by decide)
  have m_isinstance : mg "isinstance" = none := T.fr "isinstance" (by decide)
  obtain ⟨fd, FD⟩ := T.d__law_spoilt
  refine ⟨fd, ?_, FD.bindsN fun _ _ _ _ _ _ us hl => match us, hl with | [_, _], _ => rfl, T.g__law_spoilt, FD.kp⟩
  refine fn_ok (ts := ts__law_spoilt) FD sc__law_spoilt (fun cdv A outer s H E hr => ?_) ad__law_spoilt
  have sc := sc__law_spoilt
  exact (ds_cons (d_set 2 sc.nd (dx_call (k := 1) F__law_take takes_cx (by exact hr.mono (by decide)) (by rfl) M__law_take K__law_take B__law_take (da_cons (dx_var 0) (da_cons (dx_w fb dx_int) da_nil))))
  (ds_cons (d_set 3 sc.nd (dx_sub (dx_call (k := 1) F__law_take takes_cx (by exact hr.mono (by decide)) (by rfl) M__law_take K__law_take B__law_take (da_cons (dx_var 0) (da_cons (dx_w fb dx_int) da_nil))) dx_int))
  (ds_cons (d_if (dt_w (dw_or (dt_not (dt_of (dx_isi kit_tup (by rfl) m_tuple (by decide +kernel) (by rfl) m_isinstance (by decide +kernel) (dx_var 1)))) (dw_or1 (dt_eq (by exact hr.units) (dx_var 2) dx_int))))
  (ds_one (d_ret (dx_w fb (dx_ix (dx_lstB (da_cons (dx_var 1) (da_cons (dx_var 3) (da_cons (dx_w fb dx_none) (da_cons (dx_w fb dx_bool) (da_cons (dx_w fb (dx_tup da_nil)) (da_cons (dx_w fb (dx_tup (da_cons dx_int da_nil))) da_nil))))))) (dx_call (k := 1) F__law_take takes_cx (by exact hr.mono (by decide)) (by rfl) M__law_take K__law_take B__law_take (da_cons (dx_var 0) (da_cons (dx_w fb dx_int) da_nil)))))))
  ds_nil)
  (ds_cons (d_set 4 sc.nd (dx_call (k := 1) F__law_take takes_cx (by exact hr.mono (by decide)) (by rfl) M__law_take K__law_take B__law_take (da_cons (dx_var 0) (da_cons (dx_w fb (dx_add (dx_len (by rfl) m_len (dx_var 1)) dx_int)) da_nil))))
  (ds_cons (d_if (dt_eq (by exact hr.units) (dx_var 2) dx_int)
  (ds_one (d_ret (dx_add (dx_slice (dx_var 1) do_none (do_some (dx_var 4))) (dx_slice (dx_var 1) (do_some (dx_add (dx_var 4) dx_int)) do_none))))
  ds_nil)
  (ds_cons (d_if (dt_eq (by exact hr.units) (dx_var 2) dx_int)
  (ds_one (d_ret (dx_add (dx_add (dx_slice (dx_var 1) do_none (do_some (dx_var 4))) (dx_tup (da_cons (dx_n (dx_var 3)) da_nil))) (dx_slice (dx_var 1) (do_some (dx_add (dx_var 4) dx_int)) do_none))))
  ds_nil)
  (ds_cons (d_if (dt_eq (by exact hr.units) (dx_var 2) dx_int)
  (ds_one (d_ret (dx_add (dx_add (dx_slice (dx_var 1) do_none (do_some (dx_var 4))) (dx_tup (da_cons (dx_n (dx_var 3)) da_nil))) (dx_slice (dx_var 1) (do_some (dx_var 4)) do_none))))
  ds_nil)
  (ds_cons (d_if (dt_eq (by exact hr.units) (dx_var 2) dx_int)
  (ds_one (d_ret (dx_add (dx_add (dx_slice (dx_var 1) do_none (do_some (dx_var 4))) (dx_tup (da_cons dx_bool da_nil))) (dx_slice (dx_var 1) (do_some (dx_add (dx_var 4) dx_int)) do_none))))
  ds_nil)
  (ds_cons (d_if (dt_eq (by exact hr.units) (dx_var 2) dx_int)
  (ds_one (d_ret (dx_tupc (by rfl) m_tuple (dx_lc (own := [("k", 5)]) sc.nd (di_range1 false (by rfl) m_range (dx_len (by rfl) m_len (dx_var 1))) (blkOk_by (own := [("k", 5)]) (N := N__law_spoilt) (sc := defScope s__law_spoilt) (by decide +kernel)) (fun _ _ _ _ _ => (dg_name 5 sc.nd)) (fun _ _ _ _ _ => dts_nil) (fun _ _ _ _ _ => (dx_n (dx_w fb (dx_ix (dx_var 1) (dx_sub (dx_sub (dx_len (by rfl) m_len (dx_var 1)) dx_int) (dx_var 5))))))))))
  ds_nil)
  (ds_one (d_ret (dx_tup da_nil))))))))))))
abbrev N__law_judged : List Str := ["sends", "arrivals", "late", "limits", "word", "told"]
theorem sc__law_judged : FnScope N__law_judged ["sends", "arrivals", "late", "limits", "word", "told"] (defScope s__law_judged) := ⟨rfl, rfl, rfl, by decide +kernel, rfl, by decide +kernel, by decide +kernel⟩
def ts__law_judged : TDs := (sSeq (sIf (tB2 (opD eqD) (eV 4) (eC (.str "orphan")))
  (sRet true (eCall 4 C_shows_orphan (aCons (eV 0) (aCons (eV 1) (aCons (eV 2) (aCons (eV 5) aNil))))))
  sNil)
  (sSeq (sIf (tB2 (opD eqD) (eV 4) (eC (.str "lost")))
  (sRet true (eCall 5 C_shows_lost (aCons (eV 0) (aCons (eV 1) (aCons (eV 2) (aCons (eIx (eV 3) (eC (.int 0))) (aCons (eV 5) aNil)))))))
  sNil)
  (sSeq (sIf (tB2 (opD eqD) (eV 4) (eC (.str "extra")))
  (sRet true (eCall 5 C_shows_extra (aCons (eV 0) (aCons (eV 1) (aCons (eV 2) (aCons (eIx (eV 3) (eC (.int 1))) (aCons (eV 5) aNil)))))))
  sNil)
  (sSeq (sIf (tNotD (tOf (eIsi isTupS (eV 5))))
  (sRet true (eC (.bool false)))
  sNil)
  (sRet true (eCall 6 C_shows_matched (aCons (eV 0) (aCons (eV 1) (aCons (eV 2) (aCons (eIx (eV 3) (eC (.int 0))) (aCons (eIx (eV 3) (eC (.int 1))) (aCons (eV 5) aNil))))))))))))
def C__law_judged : Ctr := fun args R _ => ∃ (S A : List Int) (L X Y : Int) (w : Str) (t : PyData), args = [.d (iD S), .d (iD A), .d (.int L), .d (.list [.int X, .int Y]), .d (.str w), .d t] ∧ Sides S A L ∧ (0 ≤ X ∧ X ≤ 40) ∧ (0 ≤ Y ∧ Y ≤ 40) ∧ nolist t = true ∧ lenOk t ∧ R (.d (.bool (shws S A L X Y w t)))
theorem at__law_judged {S A : List Int} {L X Y : Int} {w : Str} {t : PyData} {R : SV → Prop} {RX : Exn → Prop} (v : Sides S A L) (hX : 0 ≤ X ∧ X ≤ 40) (hY : 0 ≤ Y ∧ Y ≤ 40) (ht : nolist t = true) (hl : lenOk t) (h : R (.d (.bool (shws S A L X Y w t)))) : C__law_judged [.d (iD S), .d (iD A), .d (.int L), .d (.list [.int X, .int Y]), .d (.str w), .d t] R RX := ⟨S, A, L, X, Y, w, t, rfl, v, hX, hY, ht, hl, h⟩
theorem ad__law_judged : AdOk C__law_judged ts__law_judged N__law_judged 6 := by
  rintro args R RX hl ⟨S, A, L, X, Y, w, t, rfl, v, hX, hY, ht, hlen, h⟩
  have x0 : atI [PyData.int X, .int Y] 0 = some (.int X) := rfl
  have x1 : atI [PyData.int X, .int Y] 1 = some (.int Y) := rfl
  have okk := okD_nol ht
  unfold shws at h
  simp [ts__law_judged, startD, x1]
  by_cases c1 : w = "orphan"
  · rw [if_pos c1] at h ⊢
    exact at_shows_orphan v ht h
  rw [if_neg c1] at h ⊢
  by_cases c2 : w = "lost"
  · rw [if_pos c2] at h ⊢
    exact at_shows_lost v hX ht hlen h
  rw [if_neg c2] at h ⊢
  by_cases c3 : w = "extra"
  · rw [if_pos c3] at h ⊢
    exact at_shows_extra v hY ht hlen h
  rw [if_neg c3] at h ⊢
  cases t with
  | tuple ds =>
    simp
    exact at_shows_matched v hX hY ht h
  | _ => first
    | (simp [nolist] at ht; done)
    | (simp [isTupD]; simpa [shwM, isAsg] using h)
theorem h__law_judged (T : Tx K mg) : Has P w K mg base (LK K) "_law_judged" 6 ["sends", "arrivals", "late", "limits", "word", "told"] C__law_judged := by
  obtain ⟨_, F_shows_matched, B_shows_matched, M_shows_matched, K_shows_matched⟩ := h_shows_matched (P := P) (w := w) (base := base) T
  obtain ⟨_, F_shows_extra, B_shows_extra, M_shows_extra, K_shows_extra⟩ := h_shows_extra (P := P) (w := w) (base := base) T
  obtain ⟨_, F_shows_lost, B_shows_lost, M_shows_lost, K_shows_lost⟩ := h_shows_lost (P := P) (w := w) (base := base) T
  obtain ⟨_, F_shows_orphan, B_shows_orphan, M_shows_orphan, K_shows_orphan⟩ := h_shows_orphan (P := P) (w := w) (base := base) T
  have m_tuple : mg "tuple" = none := T.fr "tuple" (by decide)
  have m_isinstance : mg "isinstance" = none := T.fr "isinstance" (by decide)
  obtain ⟨fd, FD⟩ := T.d__law_judged
  refine ⟨fd, ?_, FD.bindsN fun _ _ _ _ _ _ us hl => match us, hl with | [_, _, _, _, _, _], _ => rfl, T.g__law_judged, FD.kp⟩
  refine fn_ok (ts := ts__law_judged) FD sc__law_judged (fun cdv A outer s H E hr => ?_) ad__law_judged
  have sc := sc__law_judged
  exact (ds_cons (d_if (dt_eq (by exact hr.units) (dx_var 4) dx_str)
  (ds_one (d_ret (dx_call (k := 5) F_shows_orphan takes_cx (by exact hr.mono (by decide)) (by rfl) M_shows_orphan K_shows_orphan B_shows_orphan (da_cons (dx_var 0) (da_cons (dx_var 1) (da_cons (dx_var 2) (da_cons (dx_var 5) da_nil)))))))
  ds_nil)
  (ds_cons (d_if (dt_eq (by exact hr.units) (dx_var 4) dx_str)
  (ds_one (d_ret (dx_call (k := 5) F_shows_lost takes_cx (by exact hr.mono (by decide)) (by rfl) M_shows_lost K_shows_lost B_shows_lost (da_cons (dx_var 0) (da_cons (dx_var 1) (da_cons (dx_var 2) (da_cons (dx_w fb (dx_ix (dx_var 3) dx_int)) (da_cons (dx_var 5) da_nil))))))))
  ds_nil)
  (ds_cons (d_if (dt_eq (by exact hr.units) (dx_var 4) dx_str)
  (ds_one (d_ret (dx_call (k := 5) F_shows_extra takes_cx (by exact hr.mono (by decide)) (by rfl) M_shows_extra K_shows_extra B_shows_extra (da_cons (dx_var 0) (da_cons (dx_var 1) (da_cons (dx_var 2) (da_cons (dx_w fb (dx_ix (dx_var 3) dx_int)) (da_cons (dx_var 5) da_nil))))))))
  ds_nil)
  (ds_cons (d_if (dt_not (dt_of (dx_isi kit_tup (by rfl) m_tuple (by decide +kernel) (by rfl) m_isinstance (by decide +kernel) (dx_var 5))))
  (ds_one (d_ret dx_bool))
  ds_nil)
  (ds_one (d_ret (dx_call (k := 5) F_shows_matched takes_cx (by exact hr.mono (by decide)) (by rfl) M_shows_matched K_shows_matched B_shows_matched (da_cons (dx_var 0) (da_cons (dx_var 1) (da_cons (dx_var 2) (da_cons (dx_w fb (dx_ix (dx_var 3) dx_int)) (da_cons (dx_w fb (dx_ix (dx_var 3) dx_int)) (da_cons (dx_var 5) da_nil)))))))))))))
abbrev N__law_sets_meet : List Str := ["source", "sends", "arrivals", "late", "rows", "turned", "side", "lists", "picked", "k", "met", "at", "deficit", "told"]
theorem sc__law_sets_meet : FnScope N__law_sets_meet ["source", "sends", "arrivals", "late", "rows", "turned"] (defScope s__law_sets_meet) := ⟨rfl, rfl, rfl, by decide +kernel, rfl, by decide +kernel, by decide +kernel⟩
def ts__law_sets_meet : TDs := (sSeq (sFor (iRng1D (eC (.int 2))) (gN 6)
  (sSeq (sSet fo 7 (eIx (eLst (aCons (eVD 4) (aCons (eVD 5) aNil))) (eV 6)))
  (sSeq (sSet ff 8 (e1 (un1 tupD) (lcD (iRng1D (eCall 2 C__law_take (aCons (eV 0) (aCons (eC (.int 7)) aNil)))) (gN 9) tYesD (eCall 2 C__law_take (aCons (eV 0) (aCons (eB (opD (mmD fun i j => max i j)) (eC (.int 1)) (e1 lenV (eV 7))) aNil))) [9])))
  (sSeq (sIf (tB2 (opD eqD) (e1 lenV (eV 7)) (eC (.int 0)))
  (sSet ff 8 (eTup aNil))
  sNil)
  (sSeq (sSet ff 10 (eLst aNil))
  (sSeq (sFor (iSeqD fs (eVD 8)) (gN 11)
  (sExt 10 (lcD (iSeqD fb (eIx (eV 7) (eV 11))) (gN 9) (tB2 (opD (inD true)) (eV 9) (eV 10)) (eN (eV 9)) [9])))
  (sSeq (sSet ff 12 (eB (opD subD) (eCall 2 C__law_used (aCons (eV 8) (aCons (e1 lenV (eV 7)) aNil))) (e1 lenV (eV 10))))
  (sSeq (sIf (tB2 (opD eqD) (eV 6) (eC (.int 0)))
  (sSet ff 13 (eTup (aCons (eCall 4 C_send_partners (aCons (eV 1) (aCons (eV 2) (aCons (eV 3) (aCons (eV 8) aNil))))) (aCons (eCall 4 C_send_deficit (aCons (eV 1) (aCons (eV 2) (aCons (eV 3) (aCons (eV 8) aNil))))) aNil))))
  (sSet ff 13 (eTup (aCons (eCall 4 C_arrival_partners (aCons (eV 1) (aCons (eV 2) (aCons (eV 3) (aCons (eV 8) aNil))))) (aCons (eCall 4 C_arrival_deficit (aCons (eV 1) (aCons (eV 2) (aCons (eV 3) (aCons (eV 8) aNil))))) aNil)))))
  (sIf (tNotD (tOf (eCall 2 C__law_same (aCons (eV 13) (aCons (eTup (aCons (e1 (un1 tupD) (e1 (un1 sortedD) (eV 10))) (aCons (eN (eV 12)) aNil))) aNil)))))
  (sRet true (eC (.bool false)))
  sNil)))))))))
  (sRet true (eC (.bool true))))
theorem dfS {S A : List Int} {L : Int} (v : Sides S A L) : dfc (sRows S A L) A.length (looseS S A L) = (((mtL S A L).filter Option.isNone).length : Nat) := by
  have hl : (looseS S A L).Nodup := asc_nodup (lst_asc _ _)
  have hlt : ∀ x ∈ looseS S A L, x < S.length := fun x hx => (mem_lst.mp hx).1
  have := defS v.S v.A (L := L) hl (u := prt (sRows S A L) A.length (looseS S A L)) (asc_nodup (lst_asc _ _)) (fun x => by
    rw [mem_lst]
    exact ⟨fun h => h.2, fun h => ⟨wayS_lt (grd_mat v.S A L) h, h⟩⟩) fun y => by
    rw [mem_lst]
    have at' : ∀ x ∈ looseS S A L, (sRows S A L).getD x [] = rowS S A L x := fun x hx => by
      have := hlt x hx
      simp [sRows, rowS, this]
    constructor
    · rintro ⟨_, x, hx, hy⟩; exact ⟨x, hx, by rw [← at' x hx]; exact hy⟩
    · rintro ⟨x, hx, hy⟩; exact ⟨((mem_sRow A L).mp hy).1, x, hx, by rw [at' x hx]; exact hy⟩
  have e : ((mtL S A L).filter Option.isNone).length = ((List.range S.length).filter fun x => (N50.mt (grd S L 0 A) x).isNone).length := by
    rw [mtL, List.filter_map, List.length_map]; rfl
  have rl : (sRows S A L).length = S.length := by simp [sRows]
  have eu : usedN (sRows S A L).length (toI (looseS S A L)) = (looseS S A L).length := used_nodup hl (by rw [rl]; exact hlt)
  rw [dfc, eu, e]
  omega
theorem dfA {S A : List Int} {L : Int} (v : Sides S A L) : dfc (aRows S A L) S.length (looseA S A L) = (((grd S L 0 A).filter Option.isNone).length : Nat) := by
  have hl : (looseA S A L).Nodup := asc_nodup (lst_asc _ _)
  have hlt : ∀ x ∈ looseA S A L, x < A.length := fun x hx => (mem_lst.mp hx).1
  have M := grd_mat v.S A L
  have := defA v.S v.A (L := L) hl (u := prt (aRows S A L) S.length (looseA S A L)) (asc_nodup (lst_asc _ _)) (fun x => by
    rw [mem_lst]
    exact ⟨fun h => h.2, fun h => ⟨wayA_lt M h, h⟩⟩) fun y => by
    rw [mem_lst]
    have at' : ∀ x ∈ looseA S A L, (aRows S A L).getD x [] = rowA S A L x := fun x hx => by
      have := hlt x hx
      simp [aRows, rowA, this]
    constructor
    · rintro ⟨_, x, hx, hy⟩; exact ⟨x, hx, by rw [← at' x hx]; exact hy⟩
    · rintro ⟨x, hx, hy⟩; exact ⟨((mem_aRow S L).mp hy).1, x, hx, by rw [at' x hx]; exact hy⟩
  have e : ((grd S L 0 A).filter Option.isNone).length = ((List.range A.length).filter fun x => (tk (grd S L 0 A) x).isNone).length := by
    have : grd S L 0 A = (List.range A.length).map fun x => tk (grd S L 0 A) x := by
      apply List.ext_getElem?
      intro i
      rw [List.getElem?_map]
      by_cases h : i < A.length
      · have h' : i < (grd S L 0 A).length := by rw [M.len]; exact h
        simp [h, tk, h']
      · have h' : ¬ i < (grd S L 0 A).length := by rw [M.len]; exact h
        simp [h, h']
    conv => lhs; rw [this]
    rw [List.filter_map, List.length_map]; rfl
  have rl : (aRows S A L).length = A.length := by simp [aRows]
  have eu : usedN (aRows S A L).length (toI (looseA S A L)) = (looseA S A L).length := used_nodup hl (by rw [rl]; exact hlt)
  rw [dfc, eu, e]
  omega
def W4 (w : Str) : Prop := w = "orphan" ∨ w = "lost" ∨ w = "extra" ∨ w = "matched"
theorem isIdx_asc {n : Nat} {l : List Nat} (h : l.Pairwise (· < ·)) (hlt : ∀ x ∈ l, x < n) : isIdx n (nD l) = true := by
  simp only [isIdx, nD, Bool.and_eq_true, List.all_eq_true]
  refine ⟨fun d hd => ?_, (ascB_iff _).mpr ?_⟩
  · obtain ⟨k, hk, rfl⟩ := List.mem_map.mp hd
    have := hlt k hk
    simp [inRD, kD]
    omega
  · rw [List.map_map, List.pairwise_map]
    exact h.imp fun h => by simp only [Function.comp, kD, intV]; omega
theorem lack_asc {rows : List (List Nat)} {m : Nat} {l : List Nat} {X : Int} (h : l.Pairwise (· < ·)) (hlt : ∀ x ∈ l, x < rows.length) (hX : X < dfc rows m l) : lack rows m (nD l) X = true := by
  have e : isIdx rows.length (.tuple (l.map kD)) = true := isIdx_asc h hlt
  have b := nats_back l
  simp only [lack, nD, e, b, hX, decide_true, Bool.and_self]
theorem orph_none {S A : List Int} {L : Int} (h : orph S A L = none) {k : Nat} (hk : k < A.length) : rowA S A L k ≠ [] := fun z => by
  unfold orph at h
  rw [List.find?_range_eq_none] at h
  have := h k hk
  simp [z] at this
theorem asg_mem {S A : List Int} {L : Int} (v : Sides S A L) (h : orph S A L = none) {k : Nat} (hk : k < A.length) : (tk (grd S L 0 A) k).getD ((rowA S A L k).getLastD 0) ∈ rowA S A L k := by
  cases e : tk (grd S L 0 A) k with
  | some s =>
    obtain ⟨h1, h2, h3⟩ := (grd_mat v.S A L).pr k s (tk_some.mp e)
    exact (mem_aRow S L).mpr ⟨h1, h2, h3⟩
  | none =>
    have hne := orph_none h hk
    cases er : rowA S A L k with
    | nil => exact absurd er hne
    | cons a r =>
      rw [Option.getD_none, List.getLastD_eq_getLast?]
      cases e2 : (a :: r).getLast? with
      | none => simp at e2
      | some z => exact List.mem_of_getLast? e2
theorem isAsg_asg {S A : List Int} {L : Int} (v : Sides S A L) (h : orph S A L = none) : isAsg S A L (nD (asg S A L)) = true := by
  simp only [isAsg, nD, Bool.and_eq_true, decide_eq_true_eq, List.all_eq_true]
  refine ⟨by simp [asg], fun k hk => ?_⟩
  have hk := List.mem_range.mp hk
  have := asg_mem v h hk
  have e : ((asg S A L).map kD).getD k .none = kD ((tk (grd S L 0 A) k).getD ((rowA S A L k).getLastD 0)) := by simp [asg, hk]
  rw [e]
  simp only [asgOk, kD, Bool.and_eq_true, decide_eq_true_eq, List.contains_iff_mem]
  exact ⟨by omega, by simpa using this⟩
theorem used_asg {S A : List Int} {L : Int} (v : Sides S A L) : cntS S A L ≤ usedN S.length (((asg S A L).map kD).map intV) := by
  have M := grd_mat v.S A L
  have := cnt_sends M
  unfold cntS usedN
  rw [this]
  refine nodup_sub (List.nodup_range.filter _) fun s hs => ?_
  simp only [List.mem_filter, List.mem_range, decide_eq_true_eq] at hs ⊢
  refine ⟨hs.1, ?_⟩
  obtain ⟨k, e⟩ := Option.isSome_iff_exists.mp hs.2
  have ek := (mt_some M).mp e
  have hk : k < A.length := by have := lt_of_get (tk_some.mp ek); rw [M.len] at this; exact this
  rw [List.map_map]
  refine List.mem_map.mpr ⟨s, ?_, by simp [kD, intV]⟩
  rw [asg]
  exact List.mem_map.mpr ⟨k, List.mem_range.mpr hk, by rw [ek]; rfl⟩
theorem acc_is {S A : List Int} {L X Y : Int} (v : Sides S A L) : ∃ w t, acc S A L X Y = .tuple [.str w, t] ∧ nolist t = true ∧ lenS 45 t ∧ lenOk t ∧ smD 4 t ∧ W4 w ∧ shws S A L X Y w t = true := by
  have hS := v.s.len
  have hA := v.a.len
  have nice : ∀ l : List Nat, l.length ≤ 40 → nolist (nD l) = true ∧ lenS 45 (nD l) ∧ lenOk (nD l) ∧ smD 4 (nD l) := fun l hl => ⟨nolist_nD l, by simp [nD, lenS]; omega, by simp [nD, lenOk]; omega, sm_n 2 (by omega)⟩
  have a1 : ¬ (("lost" : Str) = "orphan") := by decide
  have a2 : ¬ (("extra" : Str) = "orphan") := by decide
  have a3 : ¬ (("extra" : Str) = "lost") := by decide
  have a4 : ¬ (("matched" : Str) = "orphan") := by decide
  have a5 : ¬ (("matched" : Str) = "lost") := by decide
  have a6 : ¬ (("matched" : Str) = "extra") := by decide
  unfold acc
  cases e : orph S A L with
  | some k =>
    have hk := e
    unfold orph at hk
    rw [List.find?_range_eq_some] at hk
    have hkl := List.mem_range.mp hk.2.1
    refine ⟨_, _, rfl, rfl, trivial, trivial, sm_k 3 k, .inl rfl, ?_⟩
    have eg : (aRows S A L).getD k [] = rowA S A L k := by simp [aRows, rowA, hkl]
    have rl : (aRows S A L).length = A.length := by simp [aRows]
    unfold shws
    rw [if_pos rfl]
    have he : ((k : Int)).toNat = k := by omega
    simp only [orpB, kD, he, eg, rl, hk.1, Bool.and_true, Bool.and_eq_true, decide_eq_true_eq]
    omega
  | none =>
    have c1 : (((mtL S A L).filter Option.isNone).length : Int) = (S.length : Int) - (cntS S A L : Nat) := lostN v
    have c2 := extraN (S := S) (A := A) (L := L)
    have d1 := dfS v
    have d2 := dfA v
    dsimp only
    by_cases x1 : X < (S.length : Int) - (cntS S A L : Nat)
    · rw [if_pos x1]
      obtain ⟨n1, n2, n3, n4⟩ := nice (looseS S A L) (Nat.le_trans (lst_len _ _) hS)
      refine ⟨_, _, rfl, n1, n2, n3, n4, .inr (.inl rfl), ?_⟩
      unfold shws
      rw [if_neg a1, if_pos rfl]
      exact lack_asc (lst_asc _ _) (fun x hx => by simpa [sRows] using (mem_lst.mp hx).1) (by rw [d1]; omega)
    rw [if_neg x1]
    by_cases x2 : Y < (A.length : Int) - (cntS S A L : Nat)
    · rw [if_pos x2]
      obtain ⟨n1, n2, n3, n4⟩ := nice (looseA S A L) (Nat.le_trans (lst_len _ _) hA)
      refine ⟨_, _, rfl, n1, n2, n3, n4, .inr (.inr (.inl rfl)), ?_⟩
      unfold shws
      rw [if_neg a2, if_neg a3, if_pos rfl]
      exact lack_asc (lst_asc _ _) (fun x hx => by simpa [aRows] using (mem_lst.mp hx).1) (by rw [d2]; omega)
    rw [if_neg x2]
    obtain ⟨n1, n2, n3, n4⟩ := nice (asg S A L) (by simp [asg]; omega)
    refine ⟨_, _, rfl, n1, n2, n3, n4, .inr (.inr (.inr rfl)), ?_⟩
    unfold shws
    rw [if_neg a4, if_neg a5, if_neg a6]
    have u := used_asg v
    have ia : isAsg S A L (.tuple ((asg S A L).map kD)) = true := isAsg_asg v e
    simp only [shwM, ia, nD, Bool.true_and, Bool.and_eq_true, decide_eq_true_eq]
    omega
theorem shwA_four {S A : List Int} {L X Y : Int} {w : Str} (t : PyData) (h : W4 w) : shwA S A L X Y [.str w, t] = shws S A L X Y w t := by
  have a1 : ¬ (("lost" : Str) = "orphan") := by decide
  have a2 : ¬ (("extra" : Str) = "orphan") := by decide
  have a3 : ¬ (("extra" : Str) = "lost") := by decide
  have a4 : ¬ (("matched" : Str) = "orphan") := by decide
  have a5 : ¬ (("matched" : Str) = "lost") := by decide
  have a6 : ¬ (("matched" : Str) = "extra") := by decide
  unfold shwA shws
  rcases h with rfl | rfl | rfl | rfl
  · simp
  · simp [a1]
  · simp [a2, a3]
  · simp [a4, a5, a6]
def C__law_sets_meet : Ctr := fun args R _ => ∃ (S A : List Int) (L : Int), args = [.tok, .d (iD S), .d (iD A), .d (.int L), .d (.list ((sRows S A L).map lD)), .d (.list ((aRows S A L).map lD))] ∧ Sides S A L ∧ R (.d (.bool true))
theorem at__law_sets_meet {S A : List Int} {L : Int} {R : SV → Prop} {RX : Exn → Prop} (v : Sides S A L) (h : R (.d (.bool true))) : C__law_sets_meet [.tok, .d (iD S), .d (iD A), .d (.int L), .d (.list ((sRows S A L).map lD)), .d (.list ((aRows S A L).map lD))] R RX := ⟨S, A, L, rfl, v, h⟩
theorem ad__law_sets_meet : AdOk C__law_sets_meet ts__law_sets_meet N__law_sets_meet 6 := by
  rintro args R RX hl ⟨S, A, L, rfl, v, h⟩
  have lb := line_big
  simp [ts__law_sets_meet, startD]
  have rS : (sRows S A L).length = S.length := by simp [sRows]
  have rA : (aRows S A L).length = A.length := by simp [aRows]
  refine forL_range (fun _ δ => ∃ o6 o7 o8 o9 o10 o11 o12 o13 : Option SV, δ = [some SV.tok, some (SV.d (iD S)), some (SV.d (iD A)), some (SV.d (PyData.int L)), some (SV.d (PyData.list ((sRows S A L).map lD))), some (SV.d (PyData.list ((aRows S A L).map lD))), o6, o7, o8, o9, o10, o11, o12, o13]) 0 2 ?_ ?_ _ ⟨_, _, _, _, _, _, _, _, rfl⟩
  · rintro i δ K hi hK ⟨o6, o7, o8, o9, o10, o11, o12, o13, rfl⟩
    have two : ∃ (rows : List (List Nat)) (m : Nat), atI [PyData.list ((sRows S A L).map lD), PyData.list ((aRows S A L).map lD)] (i : Int) = some (.list (rows.map lD)) ∧ RowsOk rows m ∧ (∀ r ∈ rows, r.Nodup) ∧ ((i = 0 ∧ rows = sRows S A L ∧ m = A.length) ∨ (i = 1 ∧ rows = aRows S A L ∧ m = S.length)) := by
      rw [atI_at]
      rcases i with _ | _ | i
      · exact ⟨sRows S A L, A.length, rfl, sRows_ok v, sRows_nd, .inl ⟨rfl, rfl, rfl⟩⟩
      · exact ⟨aRows S A L, S.length, rfl, aRows_ok v, aRows_nd, .inr ⟨rfl, rfl, rfl⟩⟩
      · omega
    obtain ⟨rows, m, g, ok, nd, side⟩ := two
    have n40 := ok.n40
    have m40 := ok.m40
    have tail : ∀ (idx q : List Nat) (o9 o11 o12 o13 : Option SV), idx.length ≤ 50 → (∀ x ∈ idx, x < rows.length) → q = metN rows [] idx →
        (sSeq (sSet ff 12 (eB (opD subD) (eCall 2 C__law_used (aCons (eV 8) (aCons (e1 lenV (eV 7)) aNil))) (e1 lenV (eV 10))))
  (sSeq (sIf (tB2 (opD eqD) (eV 6) (eC (.int 0)))
  (sSet ff 13 (eTup (aCons (eCall 4 C_send_partners (aCons (eV 1) (aCons (eV 2) (aCons (eV 3) (aCons (eV 8) aNil))))) (aCons (eCall 4 C_send_deficit (aCons (eV 1) (aCons (eV 2) (aCons (eV 3) (aCons (eV 8) aNil))))) aNil))))
  (sSet ff 13 (eTup (aCons (eCall 4 C_arrival_partners (aCons (eV 1) (aCons (eV 2) (aCons (eV 3) (aCons (eV 8) aNil))))) (aCons (eCall 4 C_arrival_deficit (aCons (eV 1) (aCons (eV 2) (aCons (eV 3) (aCons (eV 8) aNil))))) aNil)))))
  (sIf (tNotD (tOf (eCall 2 C__law_same (aCons (eV 13) (aCons (eTup (aCons (e1 (un1 tupD) (e1 (un1 sortedD) (eV 10))) (aCons (eN (eV 12)) aNil))) aNil)))))
  (sRet true (eC (.bool false)))
  sNil))) [some SV.tok, some (SV.d (iD S)), some (SV.d (iD A)), some (SV.d (PyData.int L)), some (SV.d (PyData.list ((sRows S A L).map lD))), some (SV.d (PyData.list ((aRows S A L).map lD))), some (SV.d (PyData.int (i : Nat))), some (SV.d (PyData.list (rows.map lD))), some (SV.d (nD idx)), o9, some (.own (q.map kD)), o11, o12, o13]
          { nx := K, rt := fun _ => R, xc := fun _ => RX } := by
      rintro idx q o9 o11 o12 o13 h50 hlt rfl
      have ei : nD idx = iD (toI idx) := by simp [nD, iD, toI, Function.comp_def, kD]
      have ml := metN_len ok hlt
      have fin : ∀ ns : List Int, ns.Perm (toI (metN rows [] idx)) → ns.Pairwise (· ≤ ·) → ns.map PyData.int = (prt rows m idx).map kD := fun ns hp hs => sort_lst (q := metN rows [] idx) (nodup_metN .nil) (fun x => by
        rw [mem_metN]
        constructor
        · rintro (a | a)
          · cases a
          · exact ⟨prt_lt ok hlt x a, a⟩
        · exact fun ⟨_, a⟩ => .inr a) hp hs
      simp
      rw [ei]
      refine at__law_used n40 ?_
      rw [← ei]
      simp
      have pl : (prt rows m idx).length ≤ 1000 := Nat.le_trans (lst_len m (Prt rows idx)) (by omega)
      have e2 : (usedN rows.length (toI idx) : Int) - ((metN rows [] idx).length : Int) = dfc rows m idx := by rw [ml]; rfl
      have same : ∀ (Q : SV → Prop), Q (.d (.bool true)) → C__law_same [.d (.tuple [nD (prt rows m idx), .int (dfc rows m idx)]), .d (.tuple [.tuple ((prt rows m idx).map kD), .int (dfc rows m idx)])] Q RX := fun Q hQ =>
        at__law_same (x := .tuple [nD (prt rows m idx), .int (dfc rows m idx)]) (sm_2 (sm_n 2 pl) trivial) hQ
      rw [e2]
      have sorts : ∀ Q : SV → Prop, Q (.d (.tuple ((prt rows m idx).map kD))) → sortedD (.list ((metN rows [] idx).map kD)) fun x => un1 tupD x Q := fun Q hQ => ⟨toI (metN rows [] idx), by simp [toI, Function.comp_def, kD], fun ns hp hs => by
        rw [fin ns hp hs]
        simp [nol_k]
        exact hQ⟩
      rcases side with ⟨rfl, rfl, rfl⟩ | ⟨rfl, rfl, rfl⟩
      · rw [if_pos rfl]
        refine at_send_partners v h50 (by simpa [rS] using hlt) ?_
        refine at_send_deficit v h50 (by simpa [rS] using hlt) ?_
        simp only [asDs_d, asDs_nil, Option.map_some]
        refine ⟨by simp, sorts _ ?_⟩
        simp only [asDs_d, asDs_nil, Option.map_some]
        refine ⟨by simp, same _ ?_⟩
        simp
        exact hK _ ⟨_, _, _, _, _, _, _, _, rfl⟩
      · rw [if_neg (by omega)]
        refine at_arrival_partners v h50 (by simpa [rA] using hlt) ?_
        refine at_arrival_deficit v h50 (by simpa [rA] using hlt) ?_
        simp only [asDs_d, asDs_nil, Option.map_some]
        refine ⟨by simp, sorts _ ?_⟩
        simp only [asDs_d, asDs_nil, Option.map_some]
        refine ⟨by simp, same _ ?_⟩
        simp
        exact hK _ ⟨_, _, _, _, _, _, _, _, rfl⟩
    simp [g, lcD]
    intro k hk
    refine ⟨by omega, by rw [rangeD_len]; omega, ?_⟩
    refine lcL_any (fun x => ∃ j : Nat, j < max 1 rows.length ∧ x = kD j) _ _ (fun d hd k1 k0 hk1 => ?_) fun xs hxl hx => ?_
    · simp [wipeD]
      refine ⟨by omega, by omega, fun j hj => hk1 _ ⟨j, by omega, rfl⟩⟩
    · rw [rangeD_len] at hxl
      obtain ⟨idx, rfl, hi⟩ := kD_list hx
      simp [nol_k]
      simp at hxl
      by_cases hr : rows = []
      · rw [if_pos hr]
        simpa [nD] using tail [] [] o9 o11 o12 o13 (by simp) (by simp) rfl
      · rw [if_neg hr]
        have hr0 : rows.length ≠ 0 := fun z => hr (List.length_eq_zero_iff.mp z)
        have hlt : ∀ x ∈ idx, x < rows.length := fun x hx => by have := hi x hx; omega
        refine forL_inv (fun r δ => ∃ (ri q : List Nat) (o9 o11 : Option SV), r = ri.map kD ∧ δ = [some SV.tok, some (SV.d (iD S)), some (SV.d (iD A)), some (SV.d (PyData.int L)), some (SV.d (PyData.list ((sRows S A L).map lD))), some (SV.d (PyData.list ((aRows S A L).map lD))), some (SV.d (PyData.int (i : Nat))), some (SV.d (PyData.list (rows.map lD))), some (SV.d (nD idx)), o9, some (.own (q.map kD)), o11, o12, o13] ∧ (∀ x ∈ ri, x < rows.length) ∧ q.Nodup ∧ (∀ y ∈ q, y < m) ∧ metN rows q ri = metN rows [] idx) ?_ ?_ _ _ ⟨idx, [], o9, o11, rfl, rfl, hlt, .nil, by simp, rfl⟩
        · rintro d r δ K2 hK2 ⟨ri, q, o9, o11, er, rfl, hri, hq, hqm, hm⟩
          obtain ⟨x, ri', rfl, rfl⟩ : ∃ x ri', ri = x :: ri' ∧ d = kD x := by
            cases ri with
            | nil => cases er
            | cons a ri' => injection er with e1 e2; exact ⟨a, ri', rfl, e1⟩
          injection er with _ er
          have hx0 := hri x (by simp)
          have mem : rows[x] ∈ rows := List.getElem_mem _
          have eg : rows.getD x [] = rows[x] := by simp [hx0]
          have g := getM (F := lD) hx0
          have rl := ok.ln _ mem
          have rm := ok.lt _ mem
          have rnd := nd _ mem
          rw [metN, List.foldl_cons, eg] at hm
          generalize rows[x] = row at g rl rm rnd hm
          have ql := nodup_bound hq hqm
          rw [gN_at]
          simp [kD, g, lcD]
          simp only [lD, seqV_lst]
          refine ⟨nol_k _, by simp; omega, lcL_of kD (fun j => !decide (j ∈ q)) kD row [] (fun j hj k1' k0' a' b' => ?_) ?_⟩
          · simp [wipeD, kD, inD_lK]
            by_cases c : j ∈ q
            · have := b' (by simp [c])
              simpa [c] using this
            · have := a' (by simp [c])
              simpa [c, kD] using this
          · have ef := addN_filter (q := q) rnd
            have fl := List.length_filter_le (fun j => !decide (j ∈ q)) row
            have := hK2 [some SV.tok, some (SV.d (iD S)), some (SV.d (iD A)), some (SV.d (PyData.int L)), some (SV.d (PyData.list ((sRows S A L).map lD))), some (SV.d (PyData.list ((aRows S A L).map lD))), some (SV.d (PyData.int (i : Nat))), some (SV.d (PyData.list (rows.map lD))), some (SV.d (nD idx)), o9, some (.own ((addN q row).map kD)), some (.d (kD x)), o12, o13] ⟨ri', addN q row, _, _, er, rfl, fun y hy => hri y (by simp [hy]), nodup_addN hq, fun y hy => (mem_addN.mp hy).elim (hqm y) (rm y), hm⟩
            rw [ef, List.map_append] at this
            generalize row.filter (fun j => !decide (j ∈ q)) = fr at fl this
            simp
            refine ⟨by omega, ?_⟩
            simpa [kD, lD] using this
        · rintro δ ⟨ri, q, o9, o11, er, rfl, hri, hq, hqm, hm⟩
          have : ri = [] := by cases ri <;> simp at er ⊢
          subst this
          have hm : q = metN rows [] idx := hm
          simpa using tail idx q o9 o11 o12 o13 (by omega) hlt hm
  · rintro δ ⟨o6, o7, o8, o9, o10, o11, o12, o13, rfl⟩
    exact h
theorem h__law_sets_meet (T : Tx K mg) : Has P w K mg base (LK K) "_law_sets_meet" 8 ["source", "sends", "arrivals", "late", "rows", "turned"] C__law_sets_meet := by
  obtain ⟨_, F__law_same, B__law_same, M__law_same, K__law_same⟩ := h__law_same (P := P) (w := w) (base := base) T
  obtain ⟨_, F_send_deficit, B_send_deficit, M_send_deficit, K_send_deficit⟩ := h_send_deficit (P := P) (w := w) (base := base) T
  obtain ⟨_, F_send_partners, B_send_partners, M_send_partners, K_send_partners⟩ := h_send_partners (P := P) (w := w) (base := base) T
  obtain ⟨_, F_arrival_deficit, B_arrival_deficit, M_arrival_deficit, K_arrival_deficit⟩ := h_arrival_deficit (P := P) (w := w) (base := base) T
  obtain ⟨_, F_arrival_partners, B_arrival_partners, M_arrival_partners, K_arrival_partners⟩ := h_arrival_partners (P := P) (w := w) (base := base) T
  obtain ⟨_, F__law_used, B__law_used, M__law_used, K__law_used⟩ := h__law_used (P := P) (w := w) (base := base) T
  obtain ⟨_, F__law_take, B__law_take, M__law_take, K__law_take⟩ := h__law_take (P := P) (w := w) (base := base) T
  have m_range : mg "range" = none := T.fr "range" (by decide)
  have m_sorted : mg "sorted" = none := T.fr "sorted" (by decide)
  have m_tuple : mg "tuple" = none := T.fr "tuple" (by decide)
  have m_len : mg "len" = none := T.fr "len" (by decide)
  have m_max : mg "max" = none := T.fr "max" (by decide)
  obtain ⟨fd, FD⟩ := T.d__law_sets_meet
  refine ⟨fd, ?_, FD.bindsN fun _ _ _ _ _ _ us hl => match us, hl with | [_, _, _, _, _, _], _ => rfl, T.g__law_sets_meet, FD.kp⟩
  refine fn_ok (ts := ts__law_sets_meet) FD sc__law_sets_meet (fun cdv A outer s H E hr => ?_) ad__law_sets_meet
  have sc := sc__law_sets_meet
  exact (ds_cons (d_for (by exact passes_of rfl) (by rfl) (di_range1 true (by rfl) m_range dx_int) (dg_name 6 sc.nd)
  (ds_cons (d_set 7 sc.nd (dx_ix (fa := fs) (dx_lstS (da_cons (dx_varD 4) (da_cons (dx_varD 5) da_nil))) (dx_var 6)))
  (ds_cons (d_set 8 sc.nd (dx_tupc (by rfl) m_tuple (dx_lc (own := [("k", 9)]) sc.nd (di_range1 false (by rfl) m_range (dx_call (k := 1) F__law_take takes_cx (by exact hr.mono (by decide)) (by rfl) M__law_take K__law_take B__law_take (da_cons (dx_var 0) (da_cons (dx_w fb dx_int) da_nil)))) (blkOk_by (own := [("k", 9)]) (N := N__law_sets_meet) (sc := defScope s__law_sets_meet) (by decide +kernel)) (fun _ _ _ _ _ => (dg_name 9 sc.nd)) (fun _ _ _ _ _ => dts_nil) (fun _ _ _ _ _ => (dx_call (k := 1) F__law_take takes0 (by exact hr.mono (by decide)) (by rfl) M__law_take K__law_take B__law_take (da_cons (dx_var 0) (da_cons (dx_w fb (dx_max2 (by rfl) (by rfl) m_max dx_int (dx_len (by rfl) m_len (dx_var 7)))) da_nil)))))))
  (ds_cons (d_if (dt_eq (by exact hr.units) (dx_len (by rfl) m_len (dx_var 7)) dx_int)
  (ds_one (d_set 8 sc.nd (dx_tup da_nil)))
  ds_nil)
  (ds_cons (d_set 10 sc.nd (dx_lst da_nil))
  (ds_cons (d_for (by exact passes_of rfl) (by rfl) (di_seq (fl := fs) true (dx_varD 8)) (dg_name 11 sc.nd)
  (ds_one (d_ext 10 (dx_lc (own := [("k", 9)]) sc.nd (di_seq (fl := fb) false (dx_w fb (dx_ix (dx_var 7) (dx_var 11)))) (blkOk_by (own := [("k", 9)]) (N := N__law_sets_meet) (sc := defScope s__law_sets_meet) (by decide +kernel)) (fun _ _ _ _ _ => (dg_name 9 sc.nd)) (fun _ _ _ _ _ => (dts_one (dt_notIn (by exact Room.u65 hr) (dx_var 9) (dx_var 10)))) (fun _ _ _ _ _ => (dx_n (dx_var 9)))))))
  (ds_cons (d_set 12 sc.nd (dx_sub (dx_call (k := 1) F__law_used takes_cx (by exact hr.mono (by decide)) (by rfl) M__law_used K__law_used B__law_used (da_cons (dx_var 8) (da_cons (dx_w fb (dx_len (by rfl) m_len (dx_var 7))) da_nil))) (dx_len (by rfl) m_len (dx_var 10))))
  (ds_cons (d_if (dt_eq (by exact hr.units) (dx_var 6) dx_int)
  (ds_one (d_set 13 sc.nd (dx_tup (da_cons (dx_call (k := 5) F_send_partners takes_cx (by exact hr.mono (by decide)) (by rfl) M_send_partners K_send_partners B_send_partners (da_cons (dx_var 1) (da_cons (dx_var 2) (da_cons (dx_var 3) (da_cons (dx_var 8) da_nil))))) (da_cons (dx_call (k := 5) F_send_deficit takes_cx (by exact hr.mono (by decide)) (by rfl) M_send_deficit K_send_deficit B_send_deficit (da_cons (dx_var 1) (da_cons (dx_var 2) (da_cons (dx_var 3) (da_cons (dx_var 8) da_nil))))) da_nil)))))
  (ds_one (d_set 13 sc.nd (dx_tup (da_cons (dx_call (k := 5) F_arrival_partners takes_cx (by exact hr.mono (by decide)) (by rfl) M_arrival_partners K_arrival_partners B_arrival_partners (da_cons (dx_var 1) (da_cons (dx_var 2) (da_cons (dx_var 3) (da_cons (dx_var 8) da_nil))))) (da_cons (dx_call (k := 5) F_arrival_deficit takes_cx (by exact hr.mono (by decide)) (by rfl) M_arrival_deficit K_arrival_deficit B_arrival_deficit (da_cons (dx_var 1) (da_cons (dx_var 2) (da_cons (dx_var 3) (da_cons (dx_var 8) da_nil))))) da_nil))))))
  (ds_one (d_if (dt_not (dt_of (dx_call (k := 7) F__law_same takes_cx (by exact hr.mono (by decide)) (by rfl) M__law_same K__law_same B__law_same (da_cons (dx_var 13) (da_cons (dx_w fb (dx_tup (da_cons (dx_tupc (by rfl) m_tuple (dx_sorted (by rfl) m_sorted (dx_var 10))) (da_cons (dx_n (dx_var 12)) da_nil)))) da_nil)))))
  (ds_one (d_ret dx_bool))
  ds_nil))))))))))
  (ds_one (d_ret dx_bool)))
abbrev N_law : List Str := ["script", "source", "late", "sends", "arrivals", "rows", "turned", "taken", "mates", "lost", "at", "extra", "k", "limits", "pairs", "loose", "told", "paper", "word", "spoilt", "due", "wrong"]
theorem sc_law : FnScope N_law ["script"] (defScope s_law) := ⟨rfl, rfl, rfl, by decide +kernel, rfl, by decide +kernel, by decide +kernel⟩
def ts_law : TDs := (sSeq (sSet ff 1 (eTok okN (eCall 2 C__law_source (aCons (eV 0) (aCons (eC (.int 0)) aNil)))))
  (sSeq (sSet ff 2 (eCall 2 C__law_take (aCons (eV 1) (aCons (eIx (eLst (aCons (eC (.int 401)) (aCons (eC (.int 6)) aNil))) (eCall 2 C__law_take (aCons (eV 1) (aCons (eC (.int 2)) aNil)))) aNil))))
  (sSeq (sSet ff 3 (eCall 1 C__law_ticks (aCons (eTok okN (eCall 2 C__law_source (aCons (eV 0) (aCons (eC (.int 1)) aNil)))) aNil)))
  (sSeq (sSet ff 4 (eCall 3 C__law_met (aCons (eTok okN (eCall 2 C__law_source (aCons (eV 0) (aCons (eC (.int 2)) aNil)))) (aCons (eV 3) (aCons (eV 2) aNil)))))
  (sSeq (sSet ff 5 (eCall 3 C__law_partners (aCons (eV 3) (aCons (eV 4) (aCons (eV 2) aNil)))))
  (sSeq (sSet ff 6 (eCall 2 C__law_turned (aCons (eV 5) (aCons (e1 lenV (eV 4)) aNil))))
  (sSeq (sSet ff 7 (eCall 2 C__law_taken (aCons (eV 6) (aCons (e1 lenV (eV 4)) aNil))))
  (sSeq (sSet ff 8 (eCall 2 C__law_mates (aCons (eV 7) (aCons (e1 lenV (eV 3)) aNil))))
  (sSeq (sSet ff 9 (e1 lenV (lcD (iVarD 8) (gN 10) (tB2 (opD (cmpI fun i j => decide (i < j))) (eV 10) (eC (.int 0))) (eN (eV 10)) [10])))
  (sSeq (sSet ff 11 (e1 lenV (lcD (iVarD 7) (gN 12) (tB2 (opD (cmpI fun i j => decide (i < j))) (eV 12) (eC (.int 0))) (eN (eV 12)) [12])))
  (sSeq (sSet ff 13 (eLst (aCons (eCall 2 C__law_limit (aCons (eV 1) (aCons (eV 9) aNil))) (aCons (eCall 2 C__law_limit (aCons (eV 1) (aCons (eV 11) aNil))) aNil))))
  (sSeq (sSet ff 14 (e1 (un1 tupD) (lcD (iRng1D (e1 lenV (eV 4))) (gN 10) (tB2 (opD (cmpI fun i j => decide (j ≤ i))) (eIx (eV 7) (eV 10)) (eC (.int 0))) (eTup (aCons (eN (eIx (eV 7) (eV 10))) (aCons (eN (eV 10)) aNil))) [10])))
  (sSeq (sIf (tNotD (tOf (eCall 2 C__law_same (aCons (eCall 3 C_matching (aCons (eV 3) (aCons (eV 4) (aCons (eV 2) aNil)))) (aCons (eV 14) aNil)))))
  (sRet true (eC (.bool false)))
  sNil)
  (sSeq (sIf (tNotD (tOf (eCall 2 C__law_same (aCons (eTup (aCons (eCall 3 C_fewest_lost (aCons (eV 3) (aCons (eV 4) (aCons (eV 2) aNil)))) (aCons (eCall 3 C_fewest_extra (aCons (eV 3) (aCons (eV 4) (aCons (eV 2) aNil)))) aNil))) (aCons (eTup (aCons (eN (eV 9)) (aCons (eN (eV 11)) aNil))) aNil)))))
  (sRet true (eC (.bool false)))
  sNil)
  (sSeq (sIf (tOrD (tB2 (opD (isBoolD true)) (eCall 1 C_is_row (aCons (eV 3) aNil)) (eC (.bool true))) (tOrD (tB2 (opD (isBoolD true)) (eCall 1 C_is_row (aCons (eV 4) aNil)) (eC (.bool true))) (tB2 (opD neD) (eC cv_MOST_ROW) (eC (.int 40)))))
  (sRet true (eC (.bool false)))
  sNil)
  (sSeq (sSet ff 15 (eTup (aCons (eCall 3 C__law_loose (aCons (eV 5) (aCons (eV 8) (aCons (eV 7) aNil)))) (aCons (eCall 3 C__law_loose (aCons (eV 6) (aCons (eV 7) (aCons (eV 8) aNil)))) aNil))))
  (sSeq (sIf (tNotD (tOf (eCall 2 C__law_same (aCons (eTup (aCons (eCall 3 C_loose_sends (aCons (eV 3) (aCons (eV 4) (aCons (eV 2) aNil)))) (aCons (eCall 3 C_loose_arrivals (aCons (eV 3) (aCons (eV 4) (aCons (eV 2) aNil)))) aNil))) (aCons (eV 15) aNil)))))
  (sRet true (eC (.bool false)))
  sNil)
  (sSeq (sSet ff 16 (eTup (aCons (eCall 4 C_send_deficit (aCons (eV 3) (aCons (eV 4) (aCons (eV 2) (aCons (eIx (eV 15) (eC (.int 0))) aNil))))) (aCons (eCall 4 C_arrival_deficit (aCons (eV 3) (aCons (eV 4) (aCons (eV 2) (aCons (eIx (eV 15) (eC (.int 1))) aNil))))) aNil))))
  (sSeq (sIf (tOrD (tNotD (tOf (eCall 2 C__law_same (aCons (eV 16) (aCons (eTup (aCons (eN (eV 9)) (aCons (eN (eV 11)) aNil))) aNil))))) (tNotD (tOf (eCall 6 C__law_sets_meet (aCons (eV 1) (aCons (eV 3) (aCons (eV 4) (aCons (eV 2) (aCons (eV 5) (aCons (eV 6) aNil))))))))))
  (sRet true (eC (.bool false)))
  sNil)
  (sSeq (sSet ff 17 (eCall 5 C__law_account (aCons (eV 5) (aCons (eV 6) (aCons (eV 7) (aCons (eV 8) (aCons (eV 13) aNil)))))))
  (sSeq (sIf (tNotD (tOf (eCall 2 C__law_same (aCons (eCall 5 C_account (aCons (eV 3) (aCons (eV 4) (aCons (eV 2) (aCons (eIx (eV 13) (eC (.int 0))) (aCons (eIx (eV 13) (eC (.int 1))) aNil)))))) (aCons (eV 17) aNil)))))
  (sRet true (eC (.bool false)))
  sNil)
  (sSeq (sIf (tB2 (opD (isBoolD true)) (eCall 6 C_shows_account (aCons (eV 3) (aCons (eV 4) (aCons (eV 2) (aCons (eIx (eV 13) (eC (.int 0))) (aCons (eIx (eV 13) (eC (.int 1))) (aCons (eV 17) aNil))))))) (eC (.bool true)))
  (sRet true (eC (.bool false)))
  sNil)
  (sSeq (sSet fb 18 (eIx (eV 17) (eC (.int 0))))
  (sSeq (sIf (tB2 (opD eqD) (eCall 2 C__law_take (aCons (eV 1) (aCons (eC (.int 3)) aNil))) (eC (.int 0)))
  (sSet fb 18 (eIx (eLst (aCons (eC (.str "orphan")) (aCons (eC (.str "lost")) (aCons (eC (.str "extra")) (aCons (eC (.str "matched")) aNil))))) (eCall 2 C__law_take (aCons (eV 1) (aCons (eC (.int 4)) aNil)))))
  sNil)
  (sSeq (sSet ff 19 (eCall 2 C__law_spoilt (aCons (eV 1) (aCons (eIx (eV 17) (eC (.int 1))) aNil))))
  (sSeq (sSet ff 20 (eCall 5 C__law_shows (aCons (eV 5) (aCons (eV 6) (aCons (eV 13) (aCons (eV 18) (aCons (eV 19) aNil)))))))
  (sSeq (sIf (tNotD (tOf (eCall 2 C__law_same (aCons (eCall 6 C_shows_account (aCons (eV 3) (aCons (eV 4) (aCons (eV 2) (aCons (eIx (eV 13) (eC (.int 0))) (aCons (eIx (eV 13) (eC (.int 1))) (aCons (eTup (aCons (eN (eV 18)) (aCons (eN (eV 19)) aNil))) aNil))))))) (aCons (eV 20) aNil)))))
  (sRet true (eC (.bool false)))
  sNil)
  (sSeq (sIf (tNotD (tOf (eCall 2 C__law_same (aCons (eCall 6 C__law_judged (aCons (eV 3) (aCons (eV 4) (aCons (eV 2) (aCons (eV 13) (aCons (eV 18) (aCons (eV 19) aNil))))))) (aCons (eV 20) aNil)))))
  (sRet true (eC (.bool false)))
  sNil)
  (sSeq (sSet fb 21 (eIx (eLst (aCons (eTup (aCons (eN (eV 18)) (aCons (eN (eV 19)) (aCons (eC (.int 0)) aNil)))) (aCons (eTup (aCons (eN (eV 18)) aNil)) (aCons (eTup aNil) (aCons (eTup (aCons (eC (.str "Matched")) (aCons (eN (eIx (eV 17) (eC (.int 1)))) aNil))) (aCons (eTup (aCons (eC .none) (aCons (eN (eIx (eV 17) (eC (.int 1)))) aNil))) aNil)))))) (eCall 2 C__law_take (aCons (eV 1) (aCons (eC (.int 5)) aNil)))))
  (sRet true (eB (opD (isBoolD false)) (eCall 6 C_shows_account (aCons (eV 3) (aCons (eV 4) (aCons (eV 2) (aCons (eIx (eV 13) (eC (.int 0))) (aCons (eIx (eV 13) (eC (.int 1))) (aCons (eV 21) aNil))))))) (eC (.bool false)))))))))))))))))))))))))))))))))
def tl_law12 : TDs := (sSeq (sSet fb 21 (eIx (eLst (aCons (eTup (aCons (eN (eV 18)) (aCons (eN (eV 19)) (aCons (eC (.int 0)) aNil)))) (aCons (eTup (aCons (eN (eV 18)) aNil)) (aCons (eTup aNil) (aCons (eTup (aCons (eC (.str "Matched")) (aCons (eN (eIx (eV 17) (eC (.int 1)))) aNil))) (aCons (eTup (aCons (eC .none) (aCons (eN (eIx (eV 17) (eC (.int 1)))) aNil))) aNil)))))) (eCall 2 C__law_take (aCons (eV 1) (aCons (eC (.int 5)) aNil)))))
  (sRet true (eB (opD (isBoolD false)) (eCall 6 C_shows_account (aCons (eV 3) (aCons (eV 4) (aCons (eV 2) (aCons (eIx (eV 13) (eC (.int 0))) (aCons (eIx (eV 13) (eC (.int 1))) (aCons (eV 21) aNil))))))) (eC (.bool false)))))
def tl_law11 : TDs := (sSeq (sIf (tNotD (tOf (eCall 2 C__law_same (aCons (eCall 6 C_shows_account (aCons (eV 3) (aCons (eV 4) (aCons (eV 2) (aCons (eIx (eV 13) (eC (.int 0))) (aCons (eIx (eV 13) (eC (.int 1))) (aCons (eTup (aCons (eN (eV 18)) (aCons (eN (eV 19)) aNil))) aNil))))))) (aCons (eV 20) aNil)))))
  (sRet true (eC (.bool false)))
  sNil)
  (sSeq (sIf (tNotD (tOf (eCall 2 C__law_same (aCons (eCall 6 C__law_judged (aCons (eV 3) (aCons (eV 4) (aCons (eV 2) (aCons (eV 13) (aCons (eV 18) (aCons (eV 19) aNil))))))) (aCons (eV 20) aNil)))))
  (sRet true (eC (.bool false)))
  sNil)
  tl_law12))
def tl_law10 : TDs := (sSeq (sSet ff 19 (eCall 2 C__law_spoilt (aCons (eV 1) (aCons (eIx (eV 17) (eC (.int 1))) aNil))))
  (sSeq (sSet ff 20 (eCall 5 C__law_shows (aCons (eV 5) (aCons (eV 6) (aCons (eV 13) (aCons (eV 18) (aCons (eV 19) aNil)))))))
  tl_law11))
def tl_law9 : TDs := (sSeq (sSet fb 18 (eIx (eV 17) (eC (.int 0))))
  (sSeq (sIf (tB2 (opD eqD) (eCall 2 C__law_take (aCons (eV 1) (aCons (eC (.int 3)) aNil))) (eC (.int 0)))
  (sSet fb 18 (eIx (eLst (aCons (eC (.str "orphan")) (aCons (eC (.str "lost")) (aCons (eC (.str "extra")) (aCons (eC (.str "matched")) aNil))))) (eCall 2 C__law_take (aCons (eV 1) (aCons (eC (.int 4)) aNil)))))
  sNil)
  tl_law10))
def tl_law8 : TDs := (sSeq (sIf (tNotD (tOf (eCall 2 C__law_same (aCons (eCall 5 C_account (aCons (eV 3) (aCons (eV 4) (aCons (eV 2) (aCons (eIx (eV 13) (eC (.int 0))) (aCons (eIx (eV 13) (eC (.int 1))) aNil)))))) (aCons (eV 17) aNil)))))
  (sRet true (eC (.bool false)))
  sNil)
  (sSeq (sIf (tB2 (opD (isBoolD true)) (eCall 6 C_shows_account (aCons (eV 3) (aCons (eV 4) (aCons (eV 2) (aCons (eIx (eV 13) (eC (.int 0))) (aCons (eIx (eV 13) (eC (.int 1))) (aCons (eV 17) aNil))))))) (eC (.bool true)))
  (sRet true (eC (.bool false)))
  sNil)
  tl_law9))
def tl_law7 : TDs := (sSeq (sIf (tOrD (tNotD (tOf (eCall 2 C__law_same (aCons (eV 16) (aCons (eTup (aCons (eN (eV 9)) (aCons (eN (eV 11)) aNil))) aNil))))) (tNotD (tOf (eCall 6 C__law_sets_meet (aCons (eV 1) (aCons (eV 3) (aCons (eV 4) (aCons (eV 2) (aCons (eV 5) (aCons (eV 6) aNil))))))))))
  (sRet true (eC (.bool false)))
  sNil)
  (sSeq (sSet ff 17 (eCall 5 C__law_account (aCons (eV 5) (aCons (eV 6) (aCons (eV 7) (aCons (eV 8) (aCons (eV 13) aNil)))))))
  tl_law8))
def tl_law6 : TDs := (sSeq (sIf (tNotD (tOf (eCall 2 C__law_same (aCons (eTup (aCons (eCall 3 C_loose_sends (aCons (eV 3) (aCons (eV 4) (aCons (eV 2) aNil)))) (aCons (eCall 3 C_loose_arrivals (aCons (eV 3) (aCons (eV 4) (aCons (eV 2) aNil)))) aNil))) (aCons (eV 15) aNil)))))
  (sRet true (eC (.bool false)))
  sNil)
  (sSeq (sSet ff 16 (eTup (aCons (eCall 4 C_send_deficit (aCons (eV 3) (aCons (eV 4) (aCons (eV 2) (aCons (eIx (eV 15) (eC (.int 0))) aNil))))) (aCons (eCall 4 C_arrival_deficit (aCons (eV 3) (aCons (eV 4) (aCons (eV 2) (aCons (eIx (eV 15) (eC (.int 1))) aNil))))) aNil))))
  tl_law7))
def tl_law5 : TDs := (sSeq (sIf (tOrD (tB2 (opD (isBoolD true)) (eCall 1 C_is_row (aCons (eV 3) aNil)) (eC (.bool true))) (tOrD (tB2 (opD (isBoolD true)) (eCall 1 C_is_row (aCons (eV 4) aNil)) (eC (.bool true))) (tB2 (opD neD) (eC cv_MOST_ROW) (eC (.int 40)))))
  (sRet true (eC (.bool false)))
  sNil)
  (sSeq (sSet ff 15 (eTup (aCons (eCall 3 C__law_loose (aCons (eV 5) (aCons (eV 8) (aCons (eV 7) aNil)))) (aCons (eCall 3 C__law_loose (aCons (eV 6) (aCons (eV 7) (aCons (eV 8) aNil)))) aNil))))
  tl_law6))
def tl_law4 : TDs := (sSeq (sIf (tNotD (tOf (eCall 2 C__law_same (aCons (eCall 3 C_matching (aCons (eV 3) (aCons (eV 4) (aCons (eV 2) aNil)))) (aCons (eV 14) aNil)))))
  (sRet true (eC (.bool false)))
  sNil)
  (sSeq (sIf (tNotD (tOf (eCall 2 C__law_same (aCons (eTup (aCons (eCall 3 C_fewest_lost (aCons (eV 3) (aCons (eV 4) (aCons (eV 2) aNil)))) (aCons (eCall 3 C_fewest_extra (aCons (eV 3) (aCons (eV 4) (aCons (eV 2) aNil)))) aNil))) (aCons (eTup (aCons (eN (eV 9)) (aCons (eN (eV 11)) aNil))) aNil)))))
  (sRet true (eC (.bool false)))
  sNil)
  tl_law5))
def tl_law3 : TDs := (sSeq (sSet ff 13 (eLst (aCons (eCall 2 C__law_limit (aCons (eV 1) (aCons (eV 9) aNil))) (aCons (eCall 2 C__law_limit (aCons (eV 1) (aCons (eV 11) aNil))) aNil))))
  (sSeq (sSet ff 14 (e1 (un1 tupD) (lcD (iRng1D (e1 lenV (eV 4))) (gN 10) (tB2 (opD (cmpI fun i j => decide (j ≤ i))) (eIx (eV 7) (eV 10)) (eC (.int 0))) (eTup (aCons (eN (eIx (eV 7) (eV 10))) (aCons (eN (eV 10)) aNil))) [10])))
  tl_law4))
def tl_law2 : TDs := (sSeq (sSet ff 9 (e1 lenV (lcD (iVarD 8) (gN 10) (tB2 (opD (cmpI fun i j => decide (i < j))) (eV 10) (eC (.int 0))) (eN (eV 10)) [10])))
  (sSeq (sSet ff 11 (e1 lenV (lcD (iVarD 7) (gN 12) (tB2 (opD (cmpI fun i j => decide (i < j))) (eV 12) (eC (.int 0))) (eN (eV 12)) [12])))
  tl_law3))
def tl_law1 : TDs := (sSeq (sSet ff 5 (eCall 3 C__law_partners (aCons (eV 3) (aCons (eV 4) (aCons (eV 2) aNil)))))
  (sSeq (sSet ff 6 (eCall 2 C__law_turned (aCons (eV 5) (aCons (e1 lenV (eV 4)) aNil))))
  (sSeq (sSet ff 7 (eCall 2 C__law_taken (aCons (eV 6) (aCons (e1 lenV (eV 4)) aNil))))
  (sSeq (sSet ff 8 (eCall 2 C__law_mates (aCons (eV 7) (aCons (e1 lenV (eV 3)) aNil))))
  tl_law2))))
def tl_law0 : TDs := (sSeq (sSet ff 1 (eTok okN (eCall 2 C__law_source (aCons (eV 0) (aCons (eC (.int 0)) aNil)))))
  (sSeq (sSet ff 2 (eCall 2 C__law_take (aCons (eV 1) (aCons (eIx (eLst (aCons (eC (.int 401)) (aCons (eC (.int 6)) aNil))) (eCall 2 C__law_take (aCons (eV 1) (aCons (eC (.int 2)) aNil)))) aNil))))
  (sSeq (sSet ff 3 (eCall 1 C__law_ticks (aCons (eTok okN (eCall 2 C__law_source (aCons (eV 0) (aCons (eC (.int 1)) aNil)))) aNil)))
  (sSeq (sSet ff 4 (eCall 3 C__law_met (aCons (eTok okN (eCall 2 C__law_source (aCons (eV 0) (aCons (eC (.int 2)) aNil)))) (aCons (eV 3) (aCons (eV 2) aNil)))))
  tl_law1))))
/-- the law's slots -/
abbrev LS (ns S A : List Int) (L : Int) (s5 s6 : SV) (r : DS) : DS := some (.d (.list (ns.map .int))) :: some .tok :: some (.d (.int L)) :: some (.d (iD S)) :: some (.d (iD A)) :: some s5 :: some s6 :: some (.own ((grd S L 0 A).map zD)) :: some (.own ((mtL S A L).map zD)) :: r
structure Sx (S A : List Int) (L : Int) (s5 s6 : SV) : Prop where
  v : Sides S A L
  h5 : toArg s5 = .d (.list ((sRows S A L).map lD))
  h6 : toArg s6 = .d (.list ((aRows S A L).map lD))
abbrev EL (R : SV → Prop) (RX : Exn → Prop) : EndsD := { nx := fun _ => R (.d .none), rt := fun _ => R, xc := fun _ => RX }
@[simp] theorem atI_p1 (x y : PyData) (r : List PyData) : atI (x :: y :: r) 1 = some y := (atI_at (x :: y :: r) 1).trans rfl
theorem sm_b (d : Nat) (b : Bool) : smD (d + 1) (.bool b) := trivial
theorem sm_i (d : Nat) (i : Int) : smD (d + 1) (.int i) := trivial
section
variable {ns S A : List Int} {L X Y : Int} {s5 s6 : SV} {R : SV → Prop} {RX : Exn → Prop}
theorem law12 (hx : Sx S A L s5 s6) (hX : 0 ≤ X ∧ X ≤ 40) (hY : 0 ≤ Y ∧ Y ≤ 40) (h : R (.d (.bool true))) {w w2 : Str} {t2 t : PyData} (n2 : nolist t2 = true) (n : nolist t = true) (l2 : lenOk t2) (l : lenOk t) {o9 o10 o11 o12 o14 o15 o16 o20 o21 : Option SV} :
    tl_law12 (LS ns S A L s5 s6 [o9, o10, o11, o12, some (.own [.int X, .int Y]), o14, o15, o16, some (.d (.tuple [.str w, t])), some (.d (.str w2)), some (.d t2), o20, o21]) (EL R RX) := by
  have all : ∀ k : Nat, (k : Int) < 5 → ∃ ds, atI [PyData.tuple [.str w2, t2, .int 0], .tuple [.str w2], .tuple [], .tuple [.str "Matched", t], .tuple [.none, t]] (k : Int) = some (.tuple ds) ∧ nolistA ds = true ∧ papOk ds ∧ shwA S A L X Y ds = false := fun k hk => by
    have hk : k < 5 := by omega
    rw [atI_at]
    rcases k with _ | _ | _ | _ | _ | k
    · exact ⟨_, rfl, by simp [n2], by simp [papOk], rfl⟩
    · exact ⟨_, rfl, by simp, by simp [papOk], rfl⟩
    · exact ⟨_, rfl, by simp, by simp [papOk], rfl⟩
    · refine ⟨_, rfl, by simp [n], by simpa [papOk] using l, ?_⟩
      have a1 : ¬ (("Matched" : Str) = "orphan") := by decide
      have a2 : ¬ (("Matched" : Str) = "lost") := by decide
      have a3 : ¬ (("Matched" : Str) = "extra") := by decide
      have a4 : ¬ (("Matched" : Str) = "matched") := by decide
      unfold shwA
      simp [a1, a2, a3, a4]
    · exact ⟨_, rfl, by simp [n], by simp [papOk], rfl⟩
    · omega
  simp [tl_law12, n, n2]
  intro k hk
  obtain ⟨ds, e, nd, pk, sf⟩ := all k hk
  simp [e, nd]
  refine at_shows_account hx.v hX hY nd pk ?_
  rw [sf]
  simpa using h
theorem law11 (hx : Sx S A L s5 s6) (hX : 0 ≤ X ∧ X ≤ 40) (hY : 0 ≤ Y ∧ Y ≤ 40) (h : R (.d (.bool true))) {w w2 : Str} {t2 t : PyData} (n2 : nolist t2 = true) (n : nolist t = true) (l2 : lenOk t2) (l : lenOk t) (w4 : W4 w2) {o9 o10 o11 o12 o14 o15 o16 o21 : Option SV} :
    tl_law11 (LS ns S A L s5 s6 [o9, o10, o11, o12, some (.own [.int X, .int Y]), o14, o15, o16, some (.d (.tuple [.str w, t])), some (.d (.str w2)), some (.d t2), some (.d (.bool (shws S A L X Y w2 t2))), o21]) (EL R RX) := by
  have g := law12 (ns := ns) (RX := RX) hx hX hY h (w := w) (w2 := w2) n2 n l2 l (o9 := o9) (o10 := o10) (o11 := o11) (o12 := o12) (o14 := o14) (o15 := o15) (o16 := o16) (o20 := some (.d (.bool (shws S A L X Y w2 t2)))) (o21 := o21)
  simp [tl_law11, n, n2]
  generalize tl_law12 = TL at g
  refine at_shows_account hx.v hX hY (by simp [n2]) (by simpa [papOk] using l2) ?_
  rw [shwA_four t2 w4]
  refine at__law_same (sm_b 4 _) ?_
  simp
  refine at__law_judged hx.v hX hY n2 l2 ?_
  refine at__law_same (sm_b 4 _) ?_
  simpa using g
theorem law10 (hx : Sx S A L s5 s6) (hX : 0 ≤ X ∧ X ≤ 40) (hY : 0 ≤ Y ∧ Y ≤ 40) (h : R (.d (.bool true))) {w w2 : Str} {t : PyData} (n : nolist t = true) (l : lenOk t) (ls : lenS 45 t) (w4 : W4 w2) {o9 o10 o11 o12 o14 o15 o16 o19 o20 o21 : Option SV} :
    tl_law10 (LS ns S A L s5 s6 [o9, o10, o11, o12, some (.own [.int X, .int Y]), o14, o15, o16, some (.d (.tuple [.str w, t])), some (.d (.str w2)), o19, o20, o21]) (EL R RX) := by
  have g := fun (t2 : PyData) (n2 : nolist t2 = true) (l2 : lenOk t2) => law11 (ns := ns) (RX := RX) hx hX hY h (w := w) (w2 := w2) n2 n l2 l w4 (o9 := o9) (o10 := o10) (o11 := o11) (o12 := o12) (o14 := o14) (o15 := o15) (o16 := o16) (o21 := o21)
  simp [tl_law10]
  generalize tl_law11 = TL at g
  refine at__law_spoilt n ls fun t2 n2 l2 => ?_
  have g := g t2 n2 l2
  simp [hx.h5, hx.h6]
  refine at__law_shows hx.v n2 l2 ?_
  simpa using g
theorem law9 (hx : Sx S A L s5 s6) (hX : 0 ≤ X ∧ X ≤ 40) (hY : 0 ≤ Y ∧ Y ≤ 40) (h : R (.d (.bool true))) {w : Str} {t : PyData} (n : nolist t = true) (l : lenOk t) (ls : lenS 45 t) (w4 : W4 w) {o9 o10 o11 o12 o14 o15 o16 o18 o19 o20 o21 : Option SV} :
    tl_law9 (LS ns S A L s5 s6 [o9, o10, o11, o12, some (.own [.int X, .int Y]), o14, o15, o16, some (.d (.tuple [.str w, t])), o18, o19, o20, o21]) (EL R RX) := by
  have g := fun (w2 : Str) (w4 : W4 w2) => law10 (ns := ns) (RX := RX) hx hX hY h (w := w) (w2 := w2) n l ls w4 (o9 := o9) (o10 := o10) (o11 := o11) (o12 := o12) (o14 := o14) (o15 := o15) (o16 := o16) (o19 := o19) (o20 := o20) (o21 := o21)
  have all : ∀ k : Nat, (k : Int) < 4 → ∃ w2, atI [PyData.str "orphan", .str "lost", .str "extra", .str "matched"] (k : Int) = some (.str w2) ∧ W4 w2 := fun k hk => by
    have hk : k < 4 := by omega
    rw [atI_at]
    rcases k with _ | _ | _ | _ | k
    · exact ⟨_, rfl, .inl rfl⟩
    · exact ⟨_, rfl, .inr (.inl rfl)⟩
    · exact ⟨_, rfl, .inr (.inr (.inl rfl))⟩
    · exact ⟨_, rfl, .inr (.inr (.inr rfl))⟩
    · omega
  simp [tl_law9]
  generalize tl_law10 = TL at g
  intro k hk
  by_cases c : k = 0
  · rw [if_pos c]
    intro k hk
    obtain ⟨w2, e, h2⟩ := all k hk
    have g := g w2 h2
    simp [e]
    simpa using g
  · rw [if_neg c]
    simpa using g w w4
theorem law8 (hx : Sx S A L s5 s6) (hX : 0 ≤ X ∧ X ≤ 40) (hY : 0 ≤ Y ∧ Y ≤ 40) (h : R (.d (.bool true))) {o9 o10 o11 o12 o14 o15 o16 o18 o19 o20 o21 : Option SV} :
    tl_law8 (LS ns S A L s5 s6 [o9, o10, o11, o12, some (.own [.int X, .int Y]), o14, o15, o16, some (.d (acc S A L X Y)), o18, o19, o20, o21]) (EL R RX) := by
  obtain ⟨w, t, ea, n, ls, l, sm, w4, st⟩ := acc_is (X := X) (Y := Y) hx.v
  have g := law9 (ns := ns) (RX := RX) hx hX hY h (w := w) n l ls w4 (o9 := o9) (o10 := o10) (o11 := o11) (o12 := o12) (o14 := o14) (o15 := o15) (o16 := o16) (o18 := o18) (o19 := o19) (o20 := o20) (o21 := o21)
  simp [tl_law8]
  generalize tl_law9 = TL at g
  refine at_account hx.v hX hY ?_
  rw [ea]
  refine at__law_same (sm_2 trivial sm) ?_
  simp
  refine at_shows_account hx.v hX hY (by simp [n]) (by simpa [papOk] using l) ?_
  rw [shwA_four t w4, st]
  simpa using g
theorem law7 (hx : Sx S A L s5 s6) (hX : 0 ≤ X ∧ X ≤ 40) (hY : 0 ≤ Y ∧ Y ≤ 40) (h : R (.d (.bool true))) {i j : Int} {o10 o12 o14 o15 o17 o18 o19 o20 o21 : Option SV} :
    tl_law7 (LS ns S A L s5 s6 [some (.d (.int i)), o10, some (.d (.int j)), o12, some (.own [.int X, .int Y]), o14, o15, some (.d (.tuple [.int i, .int j])), o17, o18, o19, o20, o21]) (EL R RX) := by
  have g := law8 (ns := ns) (RX := RX) hx hX hY h (o9 := some (.d (.int i))) (o10 := o10) (o11 := some (.d (.int j))) (o12 := o12) (o14 := o14) (o15 := o15) (o16 := some (.d (.tuple [.int i, .int j]))) (o18 := o18) (o19 := o19) (o20 := o20) (o21 := o21)
  simp [tl_law7]
  generalize tl_law8 = TL at g
  refine at__law_same (sm_2 trivial trivial) ?_
  simp [hx.h5, hx.h6]
  refine at__law_sets_meet hx.v ?_
  simp [hx.h5, hx.h6]
  refine at__law_account hx.v ?_
  simpa using g
abbrev lostI (S A : List Int) (L : Int) : Int := (((mtL S A L).filter Option.isNone).length : Nat)
abbrev extraI (S A : List Int) (L : Int) : Int := (((grd S L 0 A).filter Option.isNone).length : Nat)
theorem law6 (hx : Sx S A L s5 s6) (hX : 0 ≤ X ∧ X ≤ 40) (hY : 0 ≤ Y ∧ Y ≤ 40) (h : R (.d (.bool true))) {o10 o12 o14 o16 o17 o18 o19 o20 o21 : Option SV} :
    tl_law6 (LS ns S A L s5 s6 [some (.d (.int (lostI S A L))), o10, some (.d (.int (extraI S A L))), o12, some (.own [.int X, .int Y]), o14, some (.d (.tuple [nD (looseS S A L), nD (looseA S A L)])), o16, o17, o18, o19, o20, o21]) (EL R RX) := by
  have g := law7 (ns := ns) (RX := RX) hx hX hY h (i := lostI S A L) (j := extraI S A L) (o10 := o10) (o12 := o12) (o14 := o14) (o15 := some (.d (.tuple [nD (looseS S A L), nD (looseA S A L)]))) (o17 := o17) (o18 := o18) (o19 := o19) (o20 := o20) (o21 := o21)
  have d1 := dfS hx.v
  have d2 := dfA hx.v
  have hS := hx.v.s.len
  have hA := hx.v.a.len
  have l1 : (looseS S A L).length ≤ 40 := Nat.le_trans (lst_len _ _) hS
  have l2 : (looseA S A L).length ≤ 40 := Nat.le_trans (lst_len _ _) hA
  have m1 : ∀ x ∈ looseS S A L, x < S.length := fun x hx => (mem_lst.mp hx).1
  have m2 : ∀ x ∈ looseA S A L, x < A.length := fun x hx => (mem_lst.mp hx).1
  simp [tl_law6]
  generalize tl_law7 = TL at g
  refine at_loose_sends hx.v ?_
  refine at_loose_arrivals hx.v ?_
  simp only [asDs_d, asDs_nil, Option.map_some]
  refine ⟨by simp, at__law_same (sm_2 (sm_n 2 (by omega)) (sm_n 2 (by omega))) ?_⟩
  simp
  refine at_send_deficit hx.v (by omega) m1 ?_
  refine at_arrival_deficit hx.v (by omega) m2 ?_
  rw [d1, d2]
  simpa using g
theorem law5 (hx : Sx S A L s5 s6) (hX : 0 ≤ X ∧ X ≤ 40) (hY : 0 ≤ Y ∧ Y ≤ 40) (h : R (.d (.bool true))) {o10 o12 o14 o15 o16 o17 o18 o19 o20 o21 : Option SV} :
    tl_law5 (LS ns S A L s5 s6 [some (.d (.int (lostI S A L))), o10, some (.d (.int (extraI S A L))), o12, some (.own [.int X, .int Y]), o14, o15, o16, o17, o18, o19, o20, o21]) (EL R RX) := by
  have g := law6 (ns := ns) (RX := RX) hx hX hY h (o10 := o10) (o12 := o12) (o14 := o14) (o16 := o16) (o17 := o17) (o18 := o18) (o19 := o19) (o20 := o20) (o21 := o21)
  simp [tl_law5]
  generalize tl_law6 = TL at g
  refine ⟨S, rfl, hx.v.s, ?_⟩
  simp
  refine ⟨A, rfl, hx.v.a, ?_⟩
  simp [hx.h5, hx.h6]
  refine at__law_loose (wkS hx.v) ?_
  simp [hx.h5, hx.h6]
  refine at__law_loose (wkA hx.v) ?_
  simpa using g
theorem prs_sm {S A : List Int} {L : Int} (v : Sides S A L) : smD 5 (prs S A L) := by
  refine ⟨?_, fun y hy => ?_⟩
  · have := List.length_filter_le (fun k => (tk (grd S L 0 A) k).isSome) (List.range A.length)
    rw [List.length_range] at this
    have := v.a.len
    rw [List.length_map]
    omega
  · obtain ⟨k, _, rfl⟩ := List.mem_map.mp hy
    exact sm_2 trivial trivial
theorem law4 (hx : Sx S A L s5 s6) (hX : 0 ≤ X ∧ X ≤ 40) (hY : 0 ≤ Y ∧ Y ≤ 40) (h : R (.d (.bool true))) {o10 o12 o15 o16 o17 o18 o19 o20 o21 : Option SV} :
    tl_law4 (LS ns S A L s5 s6 [some (.d (.int (lostI S A L))), o10, some (.d (.int (extraI S A L))), o12, some (.own [.int X, .int Y]), some (.d (prs S A L)), o15, o16, o17, o18, o19, o20, o21]) (EL R RX) := by
  have g := law5 (ns := ns) (RX := RX) hx hX hY h (o10 := o10) (o12 := o12) (o14 := some (.d (prs S A L))) (o15 := o15) (o16 := o16) (o17 := o17) (o18 := o18) (o19 := o19) (o20 := o20) (o21 := o21)
  have c1 : lostI S A L = (S.length : Int) - (cntS S A L : Nat) := lostN hx.v
  have c2 : extraI S A L = (A.length : Int) - (cntS S A L : Nat) := extraN
  simp [tl_law4]
  generalize tl_law5 = TL at g
  refine at_matching hx.v ?_
  refine at__law_same (prs_sm hx.v) ?_
  simp
  refine at_fewest_lost hx.v ?_
  refine at_fewest_extra hx.v ?_
  rw [← c1, ← c2]
  simp only [asDs_d, asDs_nil, Option.map_some]
  refine ⟨by simp, at__law_same (sm_2 trivial trivial) ?_⟩
  simpa using g
theorem law3 (hx : Sx S A L s5 s6) (h : R (.d (.bool true))) {o10 o12 o13 o14 o15 o16 o17 o18 o19 o20 o21 : Option SV} :
    tl_law3 (LS ns S A L s5 s6 [some (.d (.int (lostI S A L))), o10, some (.d (.int (extraI S A L))), o12, o13, o14, o15, o16, o17, o18, o19, o20, o21]) (EL R RX) := by
  have g := fun (X Y : Int) (hX : 0 ≤ X ∧ X ≤ 40) (hY : 0 ≤ Y ∧ Y ≤ 40) => law4 (ns := ns) (RX := RX) hx hX hY h (o10 := o10) (o12 := o12) (o15 := o15) (o16 := o16) (o17 := o17) (o18 := o18) (o19 := o19) (o20 := o20) (o21 := o21)
  have hA := hx.v.a.len
  have tl : (grd S L 0 A).length = A.length := grd_len ..
  simp [tl_law3]
  generalize tl_law4 = TL at g
  refine at__law_limit fun X hX => ?_
  refine at__law_limit fun Y hY => ?_
  have g := g X Y hX hY
  simp [lcD, iD]
  refine ⟨by omega, by rw [rangeD_len]; omega, ?_⟩
  refine lcL_range A.length (fun k => (tk (grd S L 0 A) k).isSome) (fun k => .tuple [kD ((tk (grd S L 0 A) k).getD 0), kD k]) (fun k hk k1 k0 a b => ?_) ?_
  · have e : atI ((grd S L 0 A).map zD) (k : Int) = some (zD (tk (grd S L 0 A) k)) := by
      rw [atI_at, List.getElem?_map]
      have : k < (grd S L 0 A).length := by omega
      simp [tk, this]
    generalize tk (grd S L 0 A) k = x at e a b
    cases x with
    | none => simpa [wipeD, e, zD] using b rfl
    | some s => simpa [wipeD, e, zD, kD] using a rfl
  · have nn : nolistA ([] ++ ((List.range A.length).filter fun k => (tk (grd S L 0 A) k).isSome).map fun k => .tuple [kD ((tk (grd S L 0 A) k).getD 0), kD k]) = true := nol_map (fun _ => by simp) _
    exact ⟨nn, g⟩
theorem law2 (hx : Sx S A L s5 s6) (h : R (.d (.bool true))) {o9 o10 o11 o12 o13 o14 o15 o16 o17 o18 o19 o20 o21 : Option SV} :
    tl_law2 (LS ns S A L s5 s6 [o9, o10, o11, o12, o13, o14, o15, o16, o17, o18, o19, o20, o21]) (EL R RX) := by
  have g := law3 (ns := ns) (RX := RX) hx h (o10 := o10) (o12 := o12) (o13 := o13) (o14 := o14) (o15 := o15) (o16 := o16) (o17 := o17) (o18 := o18) (o19 := o19) (o20 := o20) (o21 := o21)
  have hS := hx.v.s.len
  have hA := hx.v.a.len
  have tl : (grd S L 0 A).length = A.length := grd_len ..
  have ml : (mtL S A L).length = S.length := by simp [mtL]
  simp [tl_law2, lcD, ownSeq]
  generalize tl_law3 = TL at g
  refine ⟨by omega, lcL_of zD Option.isNone zD (mtL S A L) [] (fun x hx k1 k0 a b => ?_) ?_⟩
  · cases x with
    | none => simpa [wipeD, zD] using a rfl
    | some k =>
      have ne : ¬ ((k : Int) < 0) := by omega
      simpa [wipeD, zD, ne] using b rfl
  simp
  refine ⟨by omega, lcL_of zD Option.isNone zD (grd S L 0 A) [] (fun x hx k1 k0 a b => ?_) ?_⟩
  · cases x with
    | none => simpa [wipeD, zD] using a rfl
    | some k =>
      have ne : ¬ ((k : Int) < 0) := by omega
      simpa [wipeD, zD, ne] using b rfl
  simpa using g
theorem law1 (v : Sides S A L) (h : R (.d (.bool true))) {o5 o6 o7 o8 o9 o10 o11 o12 o13 o14 o15 o16 o17 o18 o19 o20 o21 : Option SV} :
    tl_law1 [some (.d (.list (ns.map .int))), some .tok, some (.d (.int L)), some (.d (iD S)), some (.d (iD A)), o5, o6, o7, o8, o9, o10, o11, o12, o13, o14, o15, o16, o17, o18, o19, o20, o21] (EL R RX) := by
  have g := fun (s5 s6 : SV) (hx : Sx S A L s5 s6) => law2 (ns := ns) (RX := RX) hx h (o9 := o9) (o10 := o10) (o11 := o11) (o12 := o12) (o13 := o13) (o14 := o14) (o15 := o15) (o16 := o16) (o17 := o17) (o18 := o18) (o19 := o19) (o20 := o20) (o21 := o21)
  have hS := v.s.len
  have hA := v.a.len
  have tl : (grd S L 0 A).length = A.length := grd_len ..
  simp [tl_law1]
  generalize tl_law2 = TL at g
  refine at__law_partners v (lists_own _ _ fun s5 h5 => ?_)
  simp [h5, iD]
  refine at__law_turned v (lists_own _ _ fun s6 h6 => ?_)
  simp [h6]
  refine at__law_taken v ?_
  simp [nol_z]
  refine at__law_mates (by omega) hS ?_
  have g := g s5 s6 ⟨v, h5, h6⟩
  have nz : nolistA ((mtL S A L).map zD) = true := nol_z _
  show storeV ff (.own ((mtL S A L).map zD)) _
  rw [storeV_own, if_pos nz]
  exact g
end
def C_law : Ctr := fun args R RX => ∃ ns : List Int, args = [.d (.list (ns.map .int))] ∧ ns.length ≤ 63 ∧ (∀ z ∈ ns, Builtin.Int.intBits z ≤ 1048576) ∧ R (.d (.bool true))
theorem ad_law : AdOk C_law ts_law N_law 1 := by
  rintro args R RX hl ⟨ns, rfl, hn, hb, h⟩
  have src : ∀ a b c : Int, ∃ ns, SV.own [.int a, .int b, .int c] = SV.own (intsD ns) ∧ okN ns := fun a b c => ⟨[a, b, c], rfl, rfl⟩
  have two : ∀ k : Nat, (k : Int) < 2 → ∃ z : Int, atI [PyData.int 401, .int 6] (k : Int) = some (.int z) ∧ 1 ≤ z ∧ z ≤ 401 := fun k hk => by
    have hk : k < 2 := by omega
    rw [atI_at]
    rcases k with _ | _ | k
    · exact ⟨_, rfl, by omega, by omega⟩
    · exact ⟨_, rfl, by omega, by omega⟩
    · omega
  show tl_law0 (startD N_law [.d (.list (ns.map .int))]) (EL R RX)
  have g := fun (S A : List Int) (L : Int) (v : Sides S A L) => law1 (ns := ns) (RX := RX) v h (o5 := none) (o6 := none) (o7 := none) (o8 := none) (o9 := none) (o10 := none) (o11 := none) (o12 := none) (o13 := none) (o14 := none) (o15 := none) (o16 := none) (o17 := none) (o18 := none) (o19 := none) (o20 := none) (o21 := none)
  simp [tl_law0, startD]
  generalize tl_law1 = TL at g
  refine ⟨ns, 0, rfl, fun a b c => ⟨src a b c, fun k hk => ?_⟩⟩
  obtain ⟨z, e, z1, z2⟩ := two k hk
  simp [e]
  refine ⟨z1, by omega, fun L hL => ?_⟩
  refine ⟨ns, 1, rfl, fun a b c => ⟨src a b c, ?_⟩⟩
  refine at__law_ticks fun S vS => ?_
  simp
  refine ⟨ns, 2, rfl, fun a b c => ⟨src a b c, ?_⟩⟩
  refine at__law_met vS (by omega) (by omega) fun A vA => ?_
  simpa using g S A L ⟨vS, vA, by omega, by omega⟩
theorem law_fn (T : Tx K mg) : ∃ fd : FuncData, FunD K "law" "law" (defArgs s_law) (defBody s_law) (defScope s_law) [] [] (He.ga K "law") fd ∧ ∀ base : Heap, Bq K mg base → FnOk P w K mg base (L2.CX P w) 12 (He.ga K "law") fd ["script"] (spD K (LK K) 1 C_law) := by
  obtain ⟨fd, FD⟩ := T.d_law
  refine ⟨fd, FD, fun base bq => ?_⟩
  obtain ⟨_, F_shows_account, B_shows_account, M_shows_account, K_shows_account⟩ := h_shows_account (P := P) (w := w) (base := base) T
  obtain ⟨_, F__law_take, B__law_take, M__law_take, K__law_take⟩ := h__law_take (P := P) (w := w) (base := base) T
  obtain ⟨_, F__law_same, B__law_same, M__law_same, K__law_same⟩ := h__law_same (P := P) (w := w) (base := base) T
  obtain ⟨_, F__law_judged, B__law_judged, M__law_judged, K__law_judged⟩ := h__law_judged (P := P) (w := w) (base := base) T
  obtain ⟨_, F__law_shows, B__law_shows, M__law_shows, K__law_shows⟩ := h__law_shows (P := P) (w := w) (base := base) T
  obtain ⟨_, F__law_spoilt, B__law_spoilt, M__law_spoilt, K__law_spoilt⟩ := h__law_spoilt (P := P) (w := w) (base := base) T
  obtain ⟨_, F_account, B_account, M_account, K_account⟩ := h_account (P := P) (w := w) (base := base) T bq
  obtain ⟨_, F__law_account, B__law_account, M__law_account, K__law_account⟩ := h__law_account (P := P) (w := w) (base := base) T
  obtain ⟨_, F__law_sets_meet, B__law_sets_meet, M__law_sets_meet, K__law_sets_meet⟩ := h__law_sets_meet (P := P) (w := w) (base := base) T
  obtain ⟨_, F_arrival_deficit, B_arrival_deficit, M_arrival_deficit, K_arrival_deficit⟩ := h_arrival_deficit (P := P) (w := w) (base := base) T
  obtain ⟨_, F_send_deficit, B_send_deficit, M_send_deficit, K_send_deficit⟩ := h_send_deficit (P := P) (w := w) (base := base) T
  obtain ⟨_, F_loose_arrivals, B_loose_arrivals, M_loose_arrivals, K_loose_arrivals⟩ := h_loose_arrivals (P := P) (w := w) (base := base) T bq
  obtain ⟨_, F_loose_sends, B_loose_sends, M_loose_sends, K_loose_sends⟩ := h_loose_sends (P := P) (w := w) (base := base) T bq
  obtain ⟨_, F__law_loose, B__law_loose, M__law_loose, K__law_loose⟩ := h__law_loose (P := P) (w := w) (base := base) T
  obtain ⟨_, F_is_row, B_is_row, M_is_row, K_is_row⟩ := h_is_row (P := P) (w := w) (base := base) T
  obtain ⟨_, F_fewest_extra, B_fewest_extra, M_fewest_extra, K_fewest_extra⟩ := h_fewest_extra (P := P) (w := w) (base := base) T
  obtain ⟨_, F_fewest_lost, B_fewest_lost, M_fewest_lost, K_fewest_lost⟩ := h_fewest_lost (P := P) (w := w) (base := base) T
  obtain ⟨_, F_matching, B_matching, M_matching, K_matching⟩ := h_matching (P := P) (w := w) (base := base) T
  obtain ⟨_, F__law_limit, B__law_limit, M__law_limit, K__law_limit⟩ := h__law_limit (P := P) (w := w) (base := base) T
  obtain ⟨_, F__law_mates, B__law_mates, M__law_mates, K__law_mates⟩ := h__law_mates (P := P) (w := w) (base := base) T
  obtain ⟨_, F__law_taken, B__law_taken, M__law_taken, K__law_taken⟩ := h__law_taken (P := P) (w := w) (base := base) T
  obtain ⟨_, F__law_turned, B__law_turned, M__law_turned, K__law_turned⟩ := h__law_turned (P := P) (w := w) (base := base) T
  obtain ⟨_, F__law_partners, B__law_partners, M__law_partners, K__law_partners⟩ := h__law_partners (P := P) (w := w) (base := base) T
  obtain ⟨_, F__law_met, B__law_met, M__law_met, K__law_met⟩ := h__law_met (P := P) (w := w) (base := base) T
  obtain ⟨_, F__law_source, B__law_source, M__law_source, K__law_source⟩ := h__law_source (P := P) (w := w) (base := base) T
  obtain ⟨_, F__law_ticks, B__law_ticks, M__law_ticks, K__law_ticks⟩ := h__law_ticks (P := P) (w := w) (base := base) T
  have m_range : mg "range" = none := T.fr "range" (by decide)
  have m_len : mg "len" = none := T.fr "len" (by decide)
  have m_tuple : mg "tuple" = none := T.fr "tuple" (by decide)
  obtain ⟨_, mc_MOST_ROW⟩ := T.c_MOST_ROW
  refine fn_ok (ts := ts_law) FD sc_law (fun cdv A outer s H E hr => ?_) ad_law
  have sc := sc_law
  exact (ds_cons (d_set 1 sc.nd (dx_tok lkI (dx_call (k := 1) F__law_source takes_cx (by exact hr.mono (by decide)) (by rfl) M__law_source K__law_source B__law_source (da_cons (dx_var 0) (da_cons (dx_w fb dx_int) da_nil)))))
  (ds_cons (d_set 2 sc.nd (dx_call (k := 1) F__law_take takes_cx (by exact hr.mono (by decide)) (by rfl) M__law_take K__law_take B__law_take (da_cons (dx_var 1) (da_cons (dx_w fb (dx_ix (dx_lstB (da_cons (dx_w fb dx_int) (da_cons (dx_w fb dx_int) da_nil))) (dx_call (k := 1) F__law_take takes_cx (by exact hr.mono (by decide)) (by rfl) M__law_take K__law_take B__law_take (da_cons (dx_var 1) (da_cons (dx_w fb dx_int) da_nil))))) da_nil))))
  (ds_cons (d_set 3 sc.nd (dx_call (k := 2) F__law_ticks takes_cx (by exact hr.mono (by decide)) (by rfl) M__law_ticks K__law_ticks B__law_ticks (da_cons (dx_w fb (dx_tok lkI (dx_call (k := 1) F__law_source takes_cx (by exact hr.mono (by decide)) (by rfl) M__law_source K__law_source B__law_source (da_cons (dx_var 0) (da_cons (dx_w fb dx_int) da_nil))))) da_nil)))
  (ds_cons (d_set 4 sc.nd (dx_call (k := 2) F__law_met takes_cx (by exact hr.mono (by decide)) (by rfl) M__law_met K__law_met B__law_met (da_cons (dx_w fb (dx_tok lkI (dx_call (k := 1) F__law_source takes_cx (by exact hr.mono (by decide)) (by rfl) M__law_source K__law_source B__law_source (da_cons (dx_var 0) (da_cons (dx_w fb dx_int) da_nil))))) (da_cons (dx_var 3) (da_cons (dx_var 2) da_nil)))))
  (ds_cons (d_set 5 sc.nd (dx_call (k := 1) F__law_partners takes_cx (by exact hr.mono (by decide)) (by rfl) M__law_partners K__law_partners B__law_partners (da_cons (dx_var 3) (da_cons (dx_var 4) (da_cons (dx_var 2) da_nil)))))
  (ds_cons (d_set 6 sc.nd (dx_call (k := 1) F__law_turned takes_cx (by exact hr.mono (by decide)) (by rfl) M__law_turned K__law_turned B__law_turned (da_cons (dx_var 5) (da_cons (dx_w fb (dx_len (by rfl) m_len (dx_var 4))) da_nil))))
  (ds_cons (d_set 7 sc.nd (dx_call (k := 1) F__law_taken takes_cx (by exact hr.mono (by decide)) (by rfl) M__law_taken K__law_taken B__law_taken (da_cons (dx_var 6) (da_cons (dx_w fb (dx_len (by rfl) m_len (dx_var 4))) da_nil))))
  (ds_cons (d_set 8 sc.nd (dx_call (k := 1) F__law_mates takes_cx (by exact hr.mono (by decide)) (by rfl) M__law_mates K__law_mates B__law_mates (da_cons (dx_var 7) (da_cons (dx_w fb (dx_len (by rfl) m_len (dx_var 3))) da_nil))))
  (ds_cons (d_set 9 sc.nd (dx_len (by rfl) m_len (dx_lc (own := [("at", 10)]) sc.nd (di_var 8) (blkOk_by (own := [("at", 10)]) (N := N_law) (sc := defScope s_law) (by decide +kernel)) (fun _ _ _ _ _ => (dg_name 10 sc.nd)) (fun _ _ _ _ _ => (dts_one (dt_lt (dx_var 10) dx_int))) (fun _ _ _ _ _ => (dx_n (dx_var 10))))))
  (ds_cons (d_set 11 sc.nd (dx_len (by rfl) m_len (dx_lc (own := [("k", 12)]) sc.nd (di_var 7) (blkOk_by (own := [("k", 12)]) (N := N_law) (sc := defScope s_law) (by decide +kernel)) (fun _ _ _ _ _ => (dg_name 12 sc.nd)) (fun _ _ _ _ _ => (dts_one (dt_lt (dx_var 12) dx_int))) (fun _ _ _ _ _ => (dx_n (dx_var 12))))))
  (ds_cons (d_set 13 sc.nd (dx_lst (da_cons (dx_call (k := 2) F__law_limit takes_cx (by exact hr.mono (by decide)) (by rfl) M__law_limit K__law_limit B__law_limit (da_cons (dx_var 1) (da_cons (dx_var 9) da_nil))) (da_cons (dx_call (k := 2) F__law_limit takes_cx (by exact hr.mono (by decide)) (by rfl) M__law_limit K__law_limit B__law_limit (da_cons (dx_var 1) (da_cons (dx_var 11) da_nil))) da_nil))))
  (ds_cons (d_set 14 sc.nd (dx_tupc (by rfl) m_tuple (dx_lc (own := [("at", 10)]) sc.nd (di_range1 false (by rfl) m_range (dx_len (by rfl) m_len (dx_var 4))) (blkOk_by (own := [("at", 10)]) (N := N_law) (sc := defScope s_law) (by decide +kernel)) (fun _ _ _ _ _ => (dg_name 10 sc.nd)) (fun _ _ _ _ _ => (dts_one (dt_ge (dx_w fb (dx_ix (dx_var 7) (dx_var 10))) dx_int))) (fun _ _ _ _ _ => (dx_tup (da_cons (dx_n (dx_w fb (dx_ix (dx_var 7) (dx_var 10)))) (da_cons (dx_n (dx_var 10)) da_nil)))))))
  (ds_cons (d_if (dt_not (dt_of (dx_call (k := 7) F__law_same takes_cx (by exact hr.mono (by decide)) (by rfl) M__law_same K__law_same B__law_same (da_cons (dx_w fb (dx_call (k := 5) F_matching takes_cx (by exact hr.mono (by decide)) (by rfl) M_matching K_matching B_matching (da_cons (dx_var 3) (da_cons (dx_var 4) (da_cons (dx_var 2) da_nil))))) (da_cons (dx_var 14) da_nil)))))
  (ds_one (d_ret dx_bool))
  ds_nil)
  (ds_cons (d_if (dt_not (dt_of (dx_call (k := 7) F__law_same takes_cx (by exact hr.mono (by decide)) (by rfl) M__law_same K__law_same B__law_same (da_cons (dx_w fb (dx_tup (da_cons (dx_call (k := 5) F_fewest_lost takes_cx (by exact hr.mono (by decide)) (by rfl) M_fewest_lost K_fewest_lost B_fewest_lost (da_cons (dx_var 3) (da_cons (dx_var 4) (da_cons (dx_var 2) da_nil)))) (da_cons (dx_call (k := 5) F_fewest_extra takes_cx (by exact hr.mono (by decide)) (by rfl) M_fewest_extra K_fewest_extra B_fewest_extra (da_cons (dx_var 3) (da_cons (dx_var 4) (da_cons (dx_var 2) da_nil)))) da_nil)))) (da_cons (dx_w fb (dx_tup (da_cons (dx_n (dx_var 9)) (da_cons (dx_n (dx_var 11)) da_nil)))) da_nil)))))
  (ds_one (d_ret dx_bool))
  ds_nil)
  (ds_cons (d_if (dt_w (dw_or (dt_notBool (dx_call (k := 3) F_is_row takes_cx (by exact hr.mono (by decide)) (by rfl) M_is_row K_is_row B_is_row (da_cons (dx_var 3) da_nil)) dx_bool) (dw_or (dt_notBool (dx_call (k := 3) F_is_row takes_cx (by exact hr.mono (by decide)) (by rfl) M_is_row K_is_row B_is_row (da_cons (dx_var 4) da_nil)) dx_bool) (dw_or1 (dt_ne (by exact hr.units) (dx_glob_int (by rfl) mc_MOST_ROW) dx_int)))))
  (ds_one (d_ret dx_bool))
  ds_nil)
  (ds_cons (d_set 15 sc.nd (dx_tup (da_cons (dx_call (k := 1) F__law_loose takes_cx (by exact hr.mono (by decide)) (by rfl) M__law_loose K__law_loose B__law_loose (da_cons (dx_var 5) (da_cons (dx_var 8) (da_cons (dx_var 7) da_nil)))) (da_cons (dx_call (k := 1) F__law_loose takes_cx (by exact hr.mono (by decide)) (by rfl) M__law_loose K__law_loose B__law_loose (da_cons (dx_var 6) (da_cons (dx_var 7) (da_cons (dx_var 8) da_nil)))) da_nil))))
  (ds_cons (d_if (dt_not (dt_of (dx_call (k := 7) F__law_same takes_cx (by exact hr.mono (by decide)) (by rfl) M__law_same K__law_same B__law_same (da_cons (dx_w fb (dx_tup (da_cons (dx_call (k := 10) F_loose_sends takes_cx (by exact hr.mono (by decide)) (by rfl) M_loose_sends K_loose_sends B_loose_sends (da_cons (dx_var 3) (da_cons (dx_var 4) (da_cons (dx_var 2) da_nil)))) (da_cons (dx_call (k := 10) F_loose_arrivals takes_cx (by exact hr.mono (by decide)) (by rfl) M_loose_arrivals K_loose_arrivals B_loose_arrivals (da_cons (dx_var 3) (da_cons (dx_var 4) (da_cons (dx_var 2) da_nil)))) da_nil)))) (da_cons (dx_var 15) da_nil)))))
  (ds_one (d_ret dx_bool))
  ds_nil)
  (ds_cons (d_set 16 sc.nd (dx_tup (da_cons (dx_call (k := 5) F_send_deficit takes_cx (by exact hr.mono (by decide)) (by rfl) M_send_deficit K_send_deficit B_send_deficit (da_cons (dx_var 3) (da_cons (dx_var 4) (da_cons (dx_var 2) (da_cons (dx_w fb (dx_ix (dx_var 15) dx_int)) da_nil))))) (da_cons (dx_call (k := 5) F_arrival_deficit takes_cx (by exact hr.mono (by decide)) (by rfl) M_arrival_deficit K_arrival_deficit B_arrival_deficit (da_cons (dx_var 3) (da_cons (dx_var 4) (da_cons (dx_var 2) (da_cons (dx_w fb (dx_ix (dx_var 15) dx_int)) da_nil))))) da_nil))))
  (ds_cons (d_if (dt_w (dw_or (dt_not (dt_of (dx_call (k := 7) F__law_same takes_cx (by exact hr.mono (by decide)) (by rfl) M__law_same K__law_same B__law_same (da_cons (dx_var 16) (da_cons (dx_w fb (dx_tup (da_cons (dx_n (dx_var 9)) (da_cons (dx_n (dx_var 11)) da_nil)))) da_nil))))) (dw_or1 (dt_not (dt_of (dx_call (k := 8) F__law_sets_meet takes_cx (by exact hr.mono (by decide)) (by rfl) M__law_sets_meet K__law_sets_meet B__law_sets_meet (da_cons (dx_var 1) (da_cons (dx_var 3) (da_cons (dx_var 4) (da_cons (dx_var 2) (da_cons (dx_var 5) (da_cons (dx_var 6) da_nil))))))))))))
  (ds_one (d_ret dx_bool))
  ds_nil)
  (ds_cons (d_set 17 sc.nd (dx_call (k := 2) F__law_account takes_cx (by exact hr.mono (by decide)) (by rfl) M__law_account K__law_account B__law_account (da_cons (dx_var 5) (da_cons (dx_var 6) (da_cons (dx_var 7) (da_cons (dx_var 8) (da_cons (dx_var 13) da_nil)))))))
  (ds_cons (d_if (dt_not (dt_of (dx_call (k := 7) F__law_same takes_cx (by exact hr.mono (by decide)) (by rfl) M__law_same K__law_same B__law_same (da_cons (dx_w fb (dx_call (k := 11) F_account takes_cx (by exact hr.mono (by decide)) (by rfl) M_account K_account B_account (da_cons (dx_var 3) (da_cons (dx_var 4) (da_cons (dx_var 2) (da_cons (dx_w fb (dx_ix (dx_var 13) dx_int)) (da_cons (dx_w fb (dx_ix (dx_var 13) dx_int)) da_nil))))))) (da_cons (dx_var 17) da_nil)))))
  (ds_one (d_ret dx_bool))
  ds_nil)
  (ds_cons (d_if (dt_notBool (dx_call (k := 6) F_shows_account takes_cx (by exact hr.mono (by decide)) (by rfl) M_shows_account K_shows_account B_shows_account (da_cons (dx_var 3) (da_cons (dx_var 4) (da_cons (dx_var 2) (da_cons (dx_w fb (dx_ix (dx_var 13) dx_int)) (da_cons (dx_w fb (dx_ix (dx_var 13) dx_int)) (da_cons (dx_var 17) da_nil))))))) dx_bool)
  (ds_one (d_ret dx_bool))
  ds_nil)
  (ds_cons (d_set 18 sc.nd (dx_w fb (dx_ix (dx_var 17) dx_int)))
  (ds_cons (d_if (dt_eq (by exact hr.units) (dx_call (k := 1) F__law_take takes_cx (by exact hr.mono (by decide)) (by rfl) M__law_take K__law_take B__law_take (da_cons (dx_var 1) (da_cons (dx_w fb dx_int) da_nil))) dx_int)
  (ds_one (d_set 18 sc.nd (dx_w fb (dx_ix (dx_lstB (da_cons (dx_w fb dx_str) (da_cons (dx_w fb dx_str) (da_cons (dx_w fb dx_str) (da_cons (dx_w fb dx_str) da_nil))))) (dx_call (k := 1) F__law_take takes_cx (by exact hr.mono (by decide)) (by rfl) M__law_take K__law_take B__law_take (da_cons (dx_var 1) (da_cons (dx_w fb dx_int) da_nil)))))))
  ds_nil)
  (ds_cons (d_set 19 sc.nd (dx_call (k := 2) F__law_spoilt takes_cx (by exact hr.mono (by decide)) (by rfl) M__law_spoilt K__law_spoilt B__law_spoilt (da_cons (dx_var 1) (da_cons (dx_w fb (dx_ix (dx_var 17) dx_int)) da_nil))))
  (ds_cons (d_set 20 sc.nd (dx_call (k := 4) F__law_shows takes_cx (by exact hr.mono (by decide)) (by rfl) M__law_shows K__law_shows B__law_shows (da_cons (dx_var 5) (da_cons (dx_var 6) (da_cons (dx_var 13) (da_cons (dx_var 18) (da_cons (dx_var 19) da_nil)))))))
  (ds_cons (d_if (dt_not (dt_of (dx_call (k := 7) F__law_same takes_cx (by exact hr.mono (by decide)) (by rfl) M__law_same K__law_same B__law_same (da_cons (dx_w fb (dx_call (k := 6) F_shows_account takes_cx (by exact hr.mono (by decide)) (by rfl) M_shows_account K_shows_account B_shows_account (da_cons (dx_var 3) (da_cons (dx_var 4) (da_cons (dx_var 2) (da_cons (dx_w fb (dx_ix (dx_var 13) dx_int)) (da_cons (dx_w fb (dx_ix (dx_var 13) dx_int)) (da_cons (dx_w fb (dx_tup (da_cons (dx_n (dx_var 18)) (da_cons (dx_n (dx_var 19)) da_nil)))) da_nil)))))))) (da_cons (dx_var 20) da_nil)))))
  (ds_one (d_ret dx_bool))
  ds_nil)
  (ds_cons (d_if (dt_not (dt_of (dx_call (k := 7) F__law_same takes_cx (by exact hr.mono (by decide)) (by rfl) M__law_same K__law_same B__law_same (da_cons (dx_w fb (dx_call (k := 6) F__law_judged takes_cx (by exact hr.mono (by decide)) (by rfl) M__law_judged K__law_judged B__law_judged (da_cons (dx_var 3) (da_cons (dx_var 4) (da_cons (dx_var 2) (da_cons (dx_var 13) (da_cons (dx_var 18) (da_cons (dx_var 19) da_nil)))))))) (da_cons (dx_var 20) da_nil)))))
  (ds_one (d_ret dx_bool))
  ds_nil)
  (ds_cons (d_set 21 sc.nd (dx_w fb (dx_ix (dx_lstB (da_cons (dx_w fb (dx_tup (da_cons (dx_n (dx_var 18)) (da_cons (dx_n (dx_var 19)) (da_cons dx_int da_nil))))) (da_cons (dx_w fb (dx_tup (da_cons (dx_n (dx_var 18)) da_nil))) (da_cons (dx_w fb (dx_tup da_nil)) (da_cons (dx_w fb (dx_tup (da_cons dx_str (da_cons (dx_n (dx_w fb (dx_ix (dx_var 17) dx_int))) da_nil)))) (da_cons (dx_w fb (dx_tup (da_cons dx_none (da_cons (dx_n (dx_w fb (dx_ix (dx_var 17) dx_int))) da_nil)))) da_nil)))))) (dx_call (k := 1) F__law_take takes_cx (by exact hr.mono (by decide)) (by rfl) M__law_take K__law_take B__law_take (da_cons (dx_var 1) (da_cons (dx_w fb dx_int) da_nil))))))
  (ds_one (d_ret (dx_isBool (dx_call (k := 6) F_shows_account takes_cx (by exact hr.mono (by decide)) (by rfl) M_shows_account K_shows_account B_shows_account (da_cons (dx_var 3) (da_cons (dx_var 4) (da_cons (dx_var 2) (da_cons (dx_w fb (dx_ix (dx_var 13) dx_int)) (da_cons (dx_w fb (dx_ix (dx_var 13) dx_int)) (da_cons (dx_var 21) da_nil))))))) dx_bool))))))))))))))))))))))))))))))))

end
end TK

namespace TK
open PySem PySem.Spec PyProof.Rows L2 DL
def hfn : List He.DefD := [⟨("is_int", none), "is_int", "is_int", defArgs s_is_int, defBody s_is_int, defScope s_is_int, [], []⟩,
  ⟨("is_int_in", none), "is_int_in", "is_int_in", defArgs s_is_int_in, defBody s_is_int_in, defScope s_is_int_in, [], []⟩,
  ⟨("is_ascending", none), "is_ascending", "is_ascending", defArgs s_is_ascending, defBody s_is_ascending, defScope s_is_ascending, [], []⟩,
  ⟨("closure", none), "closure", "closure", defArgs s_closure, defBody s_closure, defScope s_closure, [], []⟩,
  ⟨("is_row", none), "is_row", "is_row", defArgs s_is_row, defBody s_is_row, defScope s_is_row, [], []⟩,
  ⟨("check_sides", none), "check_sides", "check_sides", defArgs s_check_sides, defBody s_check_sides, defScope s_check_sides, [], []⟩,
  ⟨("check_losses", none), "check_losses", "check_losses", defArgs s_check_losses, defBody s_check_losses, defScope s_check_losses, [], []⟩,
  ⟨("check_duplicates", none), "check_duplicates", "check_duplicates", defArgs s_check_duplicates, defBody s_check_duplicates, defScope s_check_duplicates, [], []⟩,
  ⟨("send_rows", none), "send_rows", "send_rows", defArgs s_send_rows, defBody s_send_rows, defScope s_send_rows, [], []⟩,
  ⟨("arrival_rows", none), "arrival_rows", "arrival_rows", defArgs s_arrival_rows, defBody s_arrival_rows, defScope s_arrival_rows, [], []⟩,
  ⟨("first_orphan", none), "first_orphan", "first_orphan", defArgs s_first_orphan, defBody s_first_orphan, defScope s_first_orphan, [], []⟩,
  ⟨("greedy_sends", none), "greedy_sends", "greedy_sends", defArgs s_greedy_sends, defBody s_greedy_sends, defScope s_greedy_sends, [], []⟩,
  ⟨("pair_count", none), "pair_count", "pair_count", defArgs s_pair_count, defBody s_pair_count, defScope s_pair_count, [], []⟩,
  ⟨("_send_mates", none), "_send_mates", "_send_mates", defArgs s__send_mates, defBody s__send_mates, defScope s__send_mates, [], []⟩,
  ⟨("_reached", none), "_reached", "_reached", defArgs s__reached, defBody s__reached, defScope s__reached, [], []⟩,
  ⟨("left_out_sends", none), "left_out_sends", "left_out_sends", defArgs s_left_out_sends, defBody s_left_out_sends, defScope s_left_out_sends, [], []⟩,
  ⟨("left_out_arrivals", none), "left_out_arrivals", "left_out_arrivals", defArgs s_left_out_arrivals, defBody s_left_out_arrivals, defScope s_left_out_arrivals, [], []⟩,
  ⟨("assign", none), "assign", "assign", defArgs s_assign, defBody s_assign, defScope s_assign, [], []⟩,
  ⟨("is_assignment", none), "is_assignment", "is_assignment", defArgs s_is_assignment, defBody s_is_assignment, defScope s_is_assignment, [], []⟩,
  ⟨("matching", none), "matching", "matching", defArgs s_matching, defBody s_matching, defScope s_matching, [], []⟩,
  ⟨("fewest_lost", none), "fewest_lost", "fewest_lost", defArgs s_fewest_lost, defBody s_fewest_lost, defScope s_fewest_lost, [], []⟩,
  ⟨("fewest_extra", none), "fewest_extra", "fewest_extra", defArgs s_fewest_extra, defBody s_fewest_extra, defScope s_fewest_extra, [], []⟩,
  ⟨("loose_sends", none), "loose_sends", "loose_sends", defArgs s_loose_sends, defBody s_loose_sends, defScope s_loose_sends, [], []⟩,
  ⟨("loose_arrivals", none), "loose_arrivals", "loose_arrivals", defArgs s_loose_arrivals, defBody s_loose_arrivals, defScope s_loose_arrivals, [], []⟩,
  ⟨("account_of", none), "account_of", "account_of", defArgs s_account_of, defBody s_account_of, defScope s_account_of, [], []⟩,
  ⟨("account", none), "account", "account", defArgs s_account, defBody s_account, defScope s_account, [], []⟩,
  ⟨("shows_matched", none), "shows_matched", "shows_matched", defArgs s_shows_matched, defBody s_shows_matched, defScope s_shows_matched, [], []⟩,
  ⟨("check_indexes", none), "check_indexes", "check_indexes", defArgs s_check_indexes, defBody s_check_indexes, defScope s_check_indexes, [], []⟩,
  ⟨("is_index_row", none), "is_index_row", "is_index_row", defArgs s_is_index_row, defBody s_is_index_row, defScope s_is_index_row, [], []⟩,
  ⟨("partners_of", none), "partners_of", "partners_of", defArgs s_partners_of, defBody s_partners_of, defScope s_partners_of, [], []⟩,
  ⟨("deficit_of", none), "deficit_of", "deficit_of", defArgs s_deficit_of, defBody s_deficit_of, defScope s_deficit_of, [], []⟩,
  ⟨("lacks_partners", none), "lacks_partners", "lacks_partners", defArgs s_lacks_partners, defBody s_lacks_partners, defScope s_lacks_partners, [], []⟩,
  ⟨("send_partners", none), "send_partners", "send_partners", defArgs s_send_partners, defBody s_send_partners, defScope s_send_partners, [], []⟩,
  ⟨("arrival_partners", none), "arrival_partners", "arrival_partners", defArgs s_arrival_partners, defBody s_arrival_partners, defScope s_arrival_partners, [], []⟩,
  ⟨("send_deficit", none), "send_deficit", "send_deficit", defArgs s_send_deficit, defBody s_send_deficit, defScope s_send_deficit, [], []⟩,
  ⟨("arrival_deficit", none), "arrival_deficit", "arrival_deficit", defArgs s_arrival_deficit, defBody s_arrival_deficit, defScope s_arrival_deficit, [], []⟩,
  ⟨("is_orphan", none), "is_orphan", "is_orphan", defArgs s_is_orphan, defBody s_is_orphan, defScope s_is_orphan, [], []⟩,
  ⟨("shows_orphan", none), "shows_orphan", "shows_orphan", defArgs s_shows_orphan, defBody s_shows_orphan, defScope s_shows_orphan, [], []⟩,
  ⟨("shows_lost", none), "shows_lost", "shows_lost", defArgs s_shows_lost, defBody s_shows_lost, defScope s_shows_lost, [], []⟩,
  ⟨("shows_extra", none), "shows_extra", "shows_extra", defArgs s_shows_extra, defBody s_shows_extra, defScope s_shows_extra, [], []⟩,
  ⟨("shows_account", none), "shows_account", "shows_account", defArgs s_shows_account, defBody s_shows_account, defScope s_shows_account, [], []⟩,
  ⟨("_law_source", none), "_law_source", "_law_source", defArgs s__law_source, defBody s__law_source, defScope s__law_source, [], []⟩,
  ⟨("_law_take", none), "_law_take", "_law_take", defArgs s__law_take, defBody s__law_take, defScope s__law_take, [], []⟩,
  ⟨("_law_is_int", none), "_law_is_int", "_law_is_int", defArgs s__law_is_int, defBody s__law_is_int, defScope s__law_is_int, [], []⟩,
  ⟨("_law_same", none), "_law_same", "_law_same", defArgs s__law_same, defBody s__law_same, defScope s__law_same, [], []⟩,
  ⟨("_law_ticks", none), "_law_ticks", "_law_ticks", defArgs s__law_ticks, defBody s__law_ticks, defScope s__law_ticks, [], []⟩,
  ⟨("_law_met", none), "_law_met", "_law_met", defArgs s__law_met, defBody s__law_met, defScope s__law_met, [], []⟩,
  ⟨("_law_partners", none), "_law_partners", "_law_partners", defArgs s__law_partners, defBody s__law_partners, defScope s__law_partners, [], []⟩,
  ⟨("_law_turned", none), "_law_turned", "_law_turned", defArgs s__law_turned, defBody s__law_turned, defScope s__law_turned, [], []⟩,
  ⟨("_law_taken", none), "_law_taken", "_law_taken", defArgs s__law_taken, defBody s__law_taken, defScope s__law_taken, [], []⟩,
  ⟨("_law_mates", none), "_law_mates", "_law_mates", defArgs s__law_mates, defBody s__law_mates, defScope s__law_mates, [], []⟩,
  ⟨("_law_loose", none), "_law_loose", "_law_loose", defArgs s__law_loose, defBody s__law_loose, defScope s__law_loose, [], []⟩,
  ⟨("_law_met_by", none), "_law_met_by", "_law_met_by", defArgs s__law_met_by, defBody s__law_met_by, defScope s__law_met_by, [], []⟩,
  ⟨("_law_is_set", none), "_law_is_set", "_law_is_set", defArgs s__law_is_set, defBody s__law_is_set, defScope s__law_is_set, [], []⟩,
  ⟨("_law_lacks", none), "_law_lacks", "_law_lacks", defArgs s__law_lacks, defBody s__law_lacks, defScope s__law_lacks, [], []⟩,
  ⟨("_law_is_assignment", none), "_law_is_assignment", "_law_is_assignment", defArgs s__law_is_assignment, defBody s__law_is_assignment, defScope s__law_is_assignment, [], []⟩,
  ⟨("_law_used", none), "_law_used", "_law_used", defArgs s__law_used, defBody s__law_used, defScope s__law_used, [], []⟩,
  ⟨("_law_limit", none), "_law_limit", "_law_limit", defArgs s__law_limit, defBody s__law_limit, defScope s__law_limit, [], []⟩,
  ⟨("_law_account", none), "_law_account", "_law_account", defArgs s__law_account, defBody s__law_account, defScope s__law_account, [], []⟩,
  ⟨("_law_shows", none), "_law_shows", "_law_shows", defArgs s__law_shows, defBody s__law_shows, defScope s__law_shows, [], []⟩,
  ⟨("_law_spoilt", none), "_law_spoilt", "_law_spoilt", defArgs s__law_spoilt, defBody s__law_spoilt, defScope s__law_spoilt, [], []⟩,
  ⟨("_law_judged", none), "_law_judged", "_law_judged", defArgs s__law_judged, defBody s__law_judged, defScope s__law_judged, [], []⟩,
  ⟨("_law_sets_meet", none), "_law_sets_meet", "_law_sets_meet", defArgs s__law_sets_meet, defBody s__law_sets_meet, defScope s__law_sets_meet, [], []⟩,
  ⟨("law", none), "law", "law", defArgs s_law, defBody s_law, defScope s_law, [], []⟩,
  ⟨("TooMany", some "__init__"), "__init__", "TooMany.__init__", defArgs i_TooMany, defBody i_TooMany, defScope i_TooMany, [], []⟩,
  ⟨("BadIndex", some "__init__"), "__init__", "BadIndex.__init__", defArgs i_BadIndex, defBody i_BadIndex, defScope i_BadIndex, [], []⟩,
  ⟨("BadBook", some "__init__"), "__init__", "BadBook.__init__", defArgs i_BadBook, defBody i_BadBook, defScope i_BadBook, [], []⟩]
def hfa0 : List He.Fa := [.glo "is_int", .glo "is_int_in", .glo "is_ascending", .glo "closure", .glo "is_row", .glo "check_sides", .glo "check_losses", .glo "check_duplicates", .glo "send_rows", .glo "arrival_rows", .glo "first_orphan", .glo "greedy_sends", .glo "pair_count", .glo "_send_mates", .glo "_reached", .glo "left_out_sends", .glo "left_out_arrivals", .glo "assign", .glo "is_assignment", .glo "matching", .glo "fewest_lost", .glo "fewest_extra", .glo "loose_sends", .glo "loose_arrivals", .glo "account_of", .glo "account", .glo "shows_matched", .glo "check_indexes", .glo "is_index_row", .glo "partners_of"]
def hfa1 : List He.Fa := [.glo "deficit_of", .glo "lacks_partners", .glo "send_partners", .glo "arrival_partners", .glo "send_deficit", .glo "arrival_deficit", .glo "is_orphan", .glo "shows_orphan", .glo "shows_lost", .glo "shows_extra", .glo "shows_account", .glo "_law_source", .glo "_law_take", .glo "_law_is_int", .glo "_law_same", .glo "_law_ticks", .glo "_law_met", .glo "_law_partners", .glo "_law_turned", .glo "_law_taken", .glo "_law_mates", .glo "_law_loose", .glo "_law_met_by", .glo "_law_is_set", .glo "_law_lacks", .glo "_law_is_assignment", .glo "_law_used", .glo "_law_limit", .glo "_law_account", .glo "_law_shows"]
def hfa2 : List He.Fa := [.glo "_law_spoilt", .glo "_law_judged", .glo "_law_sets_meet", .glo "law", .glo "TrunkError", .glo "TooMany", .glo "BadIndex", .glo "BadBook", .free "len", .free "isinstance", .free "int", .free "bool", .free "str", .free "tuple", .free "list", .free "range", .free "max", .free "min", .free "abs", .free "ord", .free "sorted", .free "sum", .free "set", .free "dict", .free "enumerate", .free "zip", .free "reversed", .free "repr", .free "ValueError", .free "next"]
def hfa3 : List He.Fa := [.int "MOST_REACHED" 4000, .int "MOST_TICK" 400, .int "MOST_ROW" 40]
def hfa : List He.Fa := hfa0 ++ hfa1 ++ hfa2 ++ hfa3
def exL (K : PySem.W.Frag) : List Bool := [errB K "TrunkError" [],
  errB K "TooMany" ["limit"],
  errB K "BadIndex" ["index"],
  errB K "BadBook" ["part"],
  KN.all (fun y => decide (PySem.W.exmOne K (.ref (He.ga K y)) (.ref (He.ga K "TrunkError")) = some (cm_TrunkError y))),
  KN.all (fun y => decide (PySem.W.exmOne K (.ref (He.ga K y)) (.ref (He.ga K "TooMany")) = some (cm_TooMany y))),
  KN.all (fun y => decide (PySem.W.exmOne K (.ref (He.ga K y)) (.ref (He.ga K "BadIndex")) = some (cm_BadIndex y))),
  KN.all (fun y => decide (PySem.W.exmOne K (.ref (He.ga K y)) (.ref (He.ga K "BadBook")) = some (cm_BadBook y))),
  KN.all (fun y => decide (PySem.W.kitOne K (.ref (He.ga K y)) (.ref (He.ga K "TrunkError")) = some (cm_TrunkError y))),
  KN.all (fun y => decide (PySem.W.kitOne K (.ref (He.ga K y)) (.ref (He.ga K "TooMany")) = some (cm_TooMany y))),
  KN.all (fun y => decide (PySem.W.kitOne K (.ref (He.ga K y)) (.ref (He.ga K "BadIndex")) = some (cm_BadIndex y))),
  KN.all (fun y => decide (PySem.W.kitOne K (.ref (He.ga K y)) (.ref (He.ga K "BadBook")) = some (cm_BadBook y))),
  KN.all (fun y => decide (PySem.W.kitOne K (.ref (He.ga K y)) (.type "ValueError") = some (cm_ValueError y))),
  decide (PySem.W.findIn K (.ref (He.ga K "TooMany")) "__init__" = some (some (.ref (He.ma K (He.ga K "TooMany") "__init__")))),
  decide (PySem.W.typeIn K (.ref (He.ma K (He.ga K "TooMany") "__init__")) = some (.type "function")),
  decide (PySem.W.findIn K (.ref (He.ga K "BadIndex")) "__init__" = some (some (.ref (He.ma K (He.ga K "BadIndex") "__init__")))),
  decide (PySem.W.typeIn K (.ref (He.ma K (He.ga K "BadIndex") "__init__")) = some (.type "function")),
  decide (PySem.W.findIn K (.ref (He.ga K "BadBook")) "__init__" = some (some (.ref (He.ma K (He.ga K "BadBook") "__init__")))),
  decide (PySem.W.typeIn K (.ref (He.ma K (He.ga K "BadBook") "__init__")) = some (.type "function")),
  decide ((tabs K).map (·.1)).Nodup]
def exB (K : PySem.W.Frag) : Bool := (exL K).all id
theorem exB_at {K : PySem.W.Frag} (h : exB K = true) (i : Nat) {b : Bool} (e : (exL K)[i]? = some b) : b = true := List.all_eq_true.mp h b (List.mem_of_getElem? e)
abbrev Rh : PySem.W.OpenRow := PySem.W.OpenLaw.row PySem.Challenge.rw_trunkcall_k50_accounts_with_papers
abbrev hk : PySem.W.Hook := He.hookX 6 hfa hfn [] tabDefs exB
def hob (s : PySem.W.SharedT) : He.AlX := He.obsX 6 hfa hfn [] tabDefs exB (HandSHeadRun.getT s)
theorem hob_eq (s : PySem.W.SharedT) : hob s = hk.obs s.abs := He.obsX_eq (HandSHeadRun.getT_eq s)
def loose0 : List Str := ["TrunkError", "TooMany", "BadIndex", "BadBook", "MOST_REACHED", "is_int", "is_int_in", "is_ascending", "MOST_TICK", "closure", "MOST_ROW", "is_row", "check_sides", "check_losses", "check_duplicates", "send_rows", "arrival_rows", "first_orphan", "greedy_sends", "pair_count", "_send_mates", "_reached", "left_out_sends", "left_out_arrivals", "assign", "is_assignment", "matching", "fewest_lost", "fewest_extra", "loose_sends"]
def loose1 : List Str := ["loose_arrivals", "account_of", "account", "shows_matched", "check_indexes", "is_index_row", "partners_of", "deficit_of", "lacks_partners", "send_partners", "arrival_partners", "send_deficit", "arrival_deficit", "is_orphan", "shows_orphan", "shows_lost", "shows_extra", "shows_account", "_law_source", "_law_take", "_law_is_int", "_law_same", "_law_ticks", "_law_met", "_law_partners", "_law_turned", "_law_taken", "_law_mates", "_law_loose", "_law_met_by"]
def loose2 : List Str := ["_law_is_set", "_law_lacks", "_law_is_assignment", "_law_used", "_law_limit", "_law_account", "_law_shows", "_law_spoilt", "_law_judged", "_law_sets_meet"]
def loose : List Str := loose0 ++ loose1 ++ loose2
theorem hrun (w : World) : HandSHeadRun.RunEq Rh (PySem.W.view Rh.prog [76]) hk hob 4000 loose w := by
  intro os
  kernel_rfl
theorem frees_in : ∀ x ∈ frees, (He.Fa.free x) ∈ hfa := by
  intro x hx
  rcases (by simpa [frees] using hx : x = "len" ∨ x = "isinstance" ∨ x = "int" ∨ x = "bool" ∨ x = "str" ∨ x = "tuple" ∨ x = "list" ∨ x = "range" ∨ x = "max" ∨ x = "min" ∨ x = "abs" ∨ x = "ord" ∨ x = "sorted" ∨ x = "sum" ∨ x = "set" ∨ x = "dict" ∨ x = "enumerate" ∨ x = "zip" ∨ x = "reversed" ∨ x = "repr" ∨ x = "ValueError" ∨ x = "next") with rfl | rfl | rfl | rfl | rfl | rfl | rfl | rfl | rfl | rfl | rfl | rfl | rfl | rfl | rfl | rfl | rfl | rfl | rfl | rfl | rfl | rfl
  · exact List.mem_of_getElem? (i := 68) rfl
  · exact List.mem_of_getElem? (i := 69) rfl
  · exact List.mem_of_getElem? (i := 70) rfl
  · exact List.mem_of_getElem? (i := 71) rfl
  · exact List.mem_of_getElem? (i := 72) rfl
  · exact List.mem_of_getElem? (i := 73) rfl
  · exact List.mem_of_getElem? (i := 74) rfl
  · exact List.mem_of_getElem? (i := 75) rfl
  · exact List.mem_of_getElem? (i := 76) rfl
  · exact List.mem_of_getElem? (i := 77) rfl
  · exact List.mem_of_getElem? (i := 78) rfl
  · exact List.mem_of_getElem? (i := 79) rfl
  · exact List.mem_of_getElem? (i := 80) rfl
  · exact List.mem_of_getElem? (i := 81) rfl
  · exact List.mem_of_getElem? (i := 82) rfl
  · exact List.mem_of_getElem? (i := 83) rfl
  · exact List.mem_of_getElem? (i := 84) rfl
  · exact List.mem_of_getElem? (i := 85) rfl
  · exact List.mem_of_getElem? (i := 86) rfl
  · exact List.mem_of_getElem? (i := 87) rfl
  · exact List.mem_of_getElem? (i := 88) rfl
  · exact List.mem_of_getElem? (i := 89) rfl
theorem tx_of {w : World} {K : PySem.W.Frag} {h : Heap} {mg : Str → Option Value} (X : K.In h) (G : h.Ns mainGlobals mg) (c : He.SaysX hfa hfn [] tabDefs exB w h K) : Tx K mg := by
  have cd : He.SaysD hfa hfn K := c.t.d
  have glo : ∀ x : Str, (He.Fa.glo x) ∈ hfa → mg x = some (.ref (He.ga K x)) := fun x hx => He.glo_ok X G (cd.facts hx)
  have df : ∀ i {d : He.DefD}, hfn[i]? = some d → ∃ fd, FunD K d.name d.qual d.params d.body d.scope (d.dvs K) (d.kws K) (He.fAd K d.at_) fd := fun i d e => cd.defs (List.mem_of_getElem? e)
  have ga : ∀ (i : Nat) {x : Str}, hfa[i]? = some (.glo x) → mg x = some (.ref (He.ga K x)) := fun i x e => glo x (List.mem_of_getElem? e)
  have fre : ∀ x : Str, frees.contains x = true → mg x = none := fun x hx => He.free_ok X G (cd.facts (by
      have h1 : x ∈ frees := by simpa using hx
      exact frees_in x h1))
  have er : ∀ y ∈ KN, XfC K (He.ga K y) ∧ ExcC K (He.ga K y) := by
    intro y hy
    rcases (by simpa [KN] using hy : y = "TrunkError" ∨ y = "TooMany" ∨ y = "BadIndex" ∨ y = "BadBook") with rfl | rfl | rfl | rfl
    · exact ⟨(errB_ok (exB_at c.more 0 rfl : errB K "TrunkError" [] = true)).xf, (errB_ok (exB_at c.more 0 rfl : errB K "TrunkError" [] = true)).excC⟩
    · exact ⟨(errB_ok (exB_at c.more 1 rfl : errB K "TooMany" ["limit"] = true)).xf, (errB_ok (exB_at c.more 1 rfl : errB K "TooMany" ["limit"] = true)).excC⟩
    · exact ⟨(errB_ok (exB_at c.more 2 rfl : errB K "BadIndex" ["index"] = true)).xf, (errB_ok (exB_at c.more 2 rfl : errB K "BadIndex" ["index"] = true)).excC⟩
    · exact ⟨(errB_ok (exB_at c.more 3 rfl : errB K "BadBook" ["part"] = true)).xf, (errB_ok (exB_at c.more 3 rfl : errB K "BadBook" ["part"] = true)).excC⟩
  exact {
    fr := fre
    d_is_int := df 0 rfl
    g_is_int := ga 0 rfl
    d_is_int_in := df 1 rfl
    g_is_int_in := ga 1 rfl
    d_is_ascending := df 2 rfl
    g_is_ascending := ga 2 rfl
    d_closure := df 3 rfl
    g_closure := ga 3 rfl
    d_is_row := df 4 rfl
    g_is_row := ga 4 rfl
    d_check_sides := df 5 rfl
    g_check_sides := ga 5 rfl
    d_check_losses := df 6 rfl
    g_check_losses := ga 6 rfl
    d_check_duplicates := df 7 rfl
    g_check_duplicates := ga 7 rfl
    d_send_rows := df 8 rfl
    g_send_rows := ga 8 rfl
    d_arrival_rows := df 9 rfl
    g_arrival_rows := ga 9 rfl
    d_first_orphan := df 10 rfl
    g_first_orphan := ga 10 rfl
    d_greedy_sends := df 11 rfl
    g_greedy_sends := ga 11 rfl
    d_pair_count := df 12 rfl
    g_pair_count := ga 12 rfl
    d__send_mates := df 13 rfl
    g__send_mates := ga 13 rfl
    d__reached := df 14 rfl
    g__reached := ga 14 rfl
    d_left_out_sends := df 15 rfl
    g_left_out_sends := ga 15 rfl
    d_left_out_arrivals := df 16 rfl
    g_left_out_arrivals := ga 16 rfl
    d_assign := df 17 rfl
    g_assign := ga 17 rfl
    d_is_assignment := df 18 rfl
    g_is_assignment := ga 18 rfl
    d_matching := df 19 rfl
    g_matching := ga 19 rfl
    d_fewest_lost := df 20 rfl
    g_fewest_lost := ga 20 rfl
    d_fewest_extra := df 21 rfl
    g_fewest_extra := ga 21 rfl
    d_loose_sends := df 22 rfl
    g_loose_sends := ga 22 rfl
    d_loose_arrivals := df 23 rfl
    g_loose_arrivals := ga 23 rfl
    d_account_of := df 24 rfl
    g_account_of := ga 24 rfl
    d_account := df 25 rfl
    g_account := ga 25 rfl
    d_shows_matched := df 26 rfl
    g_shows_matched := ga 26 rfl
    d_check_indexes := df 27 rfl
    g_check_indexes := ga 27 rfl
    d_is_index_row := df 28 rfl
    g_is_index_row := ga 28 rfl
    d_partners_of := df 29 rfl
    g_partners_of := ga 29 rfl
    d_deficit_of := df 30 rfl
    g_deficit_of := ga 30 rfl
    d_lacks_partners := df 31 rfl
    g_lacks_partners := ga 31 rfl
    d_send_partners := df 32 rfl
    g_send_partners := ga 32 rfl
    d_arrival_partners := df 33 rfl
    g_arrival_partners := ga 33 rfl
    d_send_deficit := df 34 rfl
    g_send_deficit := ga 34 rfl
    d_arrival_deficit := df 35 rfl
    g_arrival_deficit := ga 35 rfl
    d_is_orphan := df 36 rfl
    g_is_orphan := ga 36 rfl
    d_shows_orphan := df 37 rfl
    g_shows_orphan := ga 37 rfl
    d_shows_lost := df 38 rfl
    g_shows_lost := ga 38 rfl
    d_shows_extra := df 39 rfl
    g_shows_extra := ga 39 rfl
    d_shows_account := df 40 rfl
    g_shows_account := ga 40 rfl
    d__law_source := df 41 rfl
    g__law_source := ga 41 rfl
    d__law_take := df 42 rfl
    g__law_take := ga 42 rfl
    d__law_is_int := df 43 rfl
    g__law_is_int := ga 43 rfl
    d__law_same := df 44 rfl
    g__law_same := ga 44 rfl
    d__law_ticks := df 45 rfl
    g__law_ticks := ga 45 rfl
    d__law_met := df 46 rfl
    g__law_met := ga 46 rfl
    d__law_partners := df 47 rfl
    g__law_partners := ga 47 rfl
    d__law_turned := df 48 rfl
    g__law_turned := ga 48 rfl
    d__law_taken := df 49 rfl
    g__law_taken := ga 49 rfl
    d__law_mates := df 50 rfl
    g__law_mates := ga 50 rfl
    d__law_loose := df 51 rfl
    g__law_loose := ga 51 rfl
    d__law_met_by := df 52 rfl
    g__law_met_by := ga 52 rfl
    d__law_is_set := df 53 rfl
    g__law_is_set := ga 53 rfl
    d__law_lacks := df 54 rfl
    g__law_lacks := ga 54 rfl
    d__law_is_assignment := df 55 rfl
    g__law_is_assignment := ga 55 rfl
    d__law_used := df 56 rfl
    g__law_used := ga 56 rfl
    d__law_limit := df 57 rfl
    g__law_limit := ga 57 rfl
    d__law_account := df 58 rfl
    g__law_account := ga 58 rfl
    d__law_shows := df 59 rfl
    g__law_shows := ga 59 rfl
    d__law_spoilt := df 60 rfl
    g__law_spoilt := ga 60 rfl
    d__law_judged := df 61 rfl
    g__law_judged := ga 61 rfl
    d__law_sets_meet := df 62 rfl
    g__law_sets_meet := ga 62 rfl
    d_law := df 63 rfl
    g_law := ga 63 rfl
    g_TrunkError := ga 64 rfl
    g_TooMany := ga 65 rfl
    g_BadIndex := ga 66 rfl
    g_BadBook := ga 67 rfl
    c_MOST_REACHED := He.int_ok X G (cd.facts (List.mem_of_getElem? (i := 90) rfl))
    c_MOST_TICK := He.int_ok X G (cd.facts (List.mem_of_getElem? (i := 91) rfl))
    c_MOST_ROW := He.int_ok X G (cd.facts (List.mem_of_getElem? (i := 92) rfl))
    e_TrunkError := errB_ok (exB_at c.more 0 rfl)
    e_TooMany := errB_ok (exB_at c.more 1 rfl)
    e_BadIndex := errB_ok (exB_at c.more 2 rfl)
    e_BadBook := errB_ok (exB_at c.more 3 rfl)
    xm_TrunkError := fun y hy => of_decide_eq_true (List.all_eq_true.mp (exB_at c.more 4 rfl : (KN.all _) = true) y hy)
    is_TrunkError := fun y hy => ⟨(er y hy).2, of_decide_eq_true (List.all_eq_true.mp (exB_at c.more 8 rfl : (KN.all _) = true) y hy)⟩
    xm_TooMany := fun y hy => of_decide_eq_true (List.all_eq_true.mp (exB_at c.more 5 rfl : (KN.all _) = true) y hy)
    is_TooMany := fun y hy => ⟨(er y hy).2, of_decide_eq_true (List.all_eq_true.mp (exB_at c.more 9 rfl : (KN.all _) = true) y hy)⟩
    xm_BadIndex := fun y hy => of_decide_eq_true (List.all_eq_true.mp (exB_at c.more 6 rfl : (KN.all _) = true) y hy)
    is_BadIndex := fun y hy => ⟨(er y hy).2, of_decide_eq_true (List.all_eq_true.mp (exB_at c.more 10 rfl : (KN.all _) = true) y hy)⟩
    xm_BadBook := fun y hy => of_decide_eq_true (List.all_eq_true.mp (exB_at c.more 7 rfl : (KN.all _) = true) y hy)
    is_BadBook := fun y hy => ⟨(er y hy).2, of_decide_eq_true (List.all_eq_true.mp (exB_at c.more 11 rfl : (KN.all _) = true) y hy)⟩
    is_ValueError := fun y hy => ⟨(er y hy).2, of_decide_eq_true (List.all_eq_true.mp (exB_at c.more 12 rfl : (KN.all _) = true) y hy)⟩
    di_TooMany := df 64 rfl
    fi_TooMany := of_decide_eq_true (exB_at c.more 13 rfl)
    ti_TooMany := of_decide_eq_true (exB_at c.more 14 rfl)
    di_BadIndex := df 65 rfl
    fi_BadIndex := of_decide_eq_true (exB_at c.more 15 rfl)
    ti_BadIndex := of_decide_eq_true (exB_at c.more 16 rfl)
    di_BadBook := df 66 rfl
    fi_BadBook := of_decide_eq_true (exB_at c.more 17 rfl)
    ti_BadBook := of_decide_eq_true (exB_at c.more 18 rfl)
    f_limit := by
      intro y hy
      rcases (by simpa using hy : y = "TooMany") with rfl
      exact ⟨(errB_ok (exB_at c.more 1 rfl : errB K "TooMany" ["limit"] = true)).xf, (errB_ok (exB_at c.more 1 rfl : errB K "TooMany" ["limit"] = true)).no _ (by decide)⟩
    f_index := by
      intro y hy
      rcases (by simpa using hy : y = "BadIndex") with rfl
      exact ⟨(errB_ok (exB_at c.more 2 rfl : errB K "BadIndex" ["index"] = true)).xf, (errB_ok (exB_at c.more 2 rfl : errB K "BadIndex" ["index"] = true)).no _ (by decide)⟩
    f_part := by
      intro y hy
      rcases (by simpa using hy : y = "BadBook") with rfl
      exact ⟨(errB_ok (exB_at c.more 3 rfl : errB K "BadBook" ["part"] = true)).xf, (errB_ok (exB_at c.more 3 rfl : errB K "BadBook" ["part"] = true)).no _ (by decide)⟩
    tn := of_decide_eq_true (exB_at c.more 19 rfl) }
theorem tabs_in {K : PySem.W.Frag} : ∀ p ∈ tabs K, ∃ q ∈ tabDefs, p.1 = (He.cT K q).2 := by
  intro p hp
  simp only [tabs, List.mem_cons, List.not_mem_nil, or_false] at hp
  rcases hp with rfl
  · exact ⟨("_reached", none), by decide, rfl⟩
theorem hid0_sqL {K : PySem.W.Frag} {H : Hp} {a : Addr} {xs : List V} (h : SqL K H a xs) : SqL K (hid (fun _ => false) H) a xs := by
  have one : ∀ o, H a = some o → tblB o = false → hid (fun _ => false) H a = some o := fun o e n => hid_of rfl e n
  rcases h with (h | ⟨o, h⟩) | h
  · exact .inl (.inl (one _ h rfl))
  · exact .inl (.inr ⟨o, one _ h rfl⟩)
  · exact .inr h
theorem law_at {w : World} {K : PySem.W.Frag} {h : Heap} {mg : Str → Option Value} {fa : Addr} (X : K.In h) (G : h.Ns mainGlobals mg) (hlaw : mg ("law" : Str) = some (.ref fa)) (c : He.SaysX hfa hfn [] tabDefs exB w h K) : LamX.LawAtS PySem.Challenge.rw_trunkcall_k50_accounts_with_papers w K (L2.CX (PySem.Challenge.rw_trunkcall_k50_accounts_with_papers).prog w) 12 63 "script" mg fa h := by
  have T := tx_of X G c
  obtain ⟨fd, FD, F⟩ := law_fn (P := (PySem.Challenge.rw_trunkcall_k50_accounts_with_papers).prog) (w := w) T
  have e := hlaw.symm.trans T.g_law
  cases e
  have b := FunD.bindsA (ps := ["script"]) FD fun _ _ _ _ _ _ us hl => match us, hl with | [_], _ => rfl
  refine ⟨fd, tabDefs.map (He.cT K), spD K (LK K) 1 C_law, fun p hp => ?_, fun p hp => ?_, fun p hp => ?_, fun s v => b s [v] rfl, fun H a ns hl hb hT hS => ?_, fun base KX G TB => F base fun p hp => TB _ (List.mem_map.mpr ⟨p, hp, rfl⟩)⟩
  · obtain ⟨q, hq, rfl⟩ := List.mem_map.mp hp
    exact c.empty q hq
  · obtain ⟨q, hq, rfl⟩ := List.mem_map.mp hp
    exact c.out q hq
  · obtain ⟨q, hq, rfl⟩ := List.mem_map.mp hp
    exact PySem.W.codeHd_of_K X (c.hd q hq)
  · refine ⟨fun _ => false, [.d (.list (ns.map .int))], fun sv => sv = .d (.bool true), fun _ => False, rfl, ⟨(fun _ z => nomatch z), fun p hp => ?_⟩, .cons ⟨Dp.lst (hid0_sqL hS) (ints_dp ns), rfl⟩ .nil, ⟨ns, rfl, hl, hb, rfl⟩, fun sv v L' H' e _ _ o => ?_, fun _ _ _ _ _ z => z.elim⟩
    · obtain ⟨q, hq, e⟩ := tabs_in p hp
      exact LamX.TabS.nil (by rw [e]; exact hT _ (List.mem_map.mpr ⟨q, hq, rfl⟩))
    · subst e
      cases o
      rfl
end TK
open PySem PySem.W PySem.Calls PyProof.Rows
theorem PySem.Challenge.cw_trunkcall_k50_accounts_with_papers_holds : PySem.Challenge.rw_trunkcall_k50_accounts_with_papers.Holds := by
  w_on; o_law
  refine HandSHeadRun.head_any (r := OpenLaw.row PySem.Challenge.rw_trunkcall_k50_accounts_with_papers) (q := view (OpenLaw.row PySem.Challenge.rw_trunkcall_k50_accounts_with_papers).prog [76]) (H := TK.hk) (ob := TK.hob) (M := 4000) (loose := TK.loose) (d := HandSHeadRun.topDef (OpenLaw.row PySem.Challenge.rw_trunkcall_k50_accounts_with_papers).prog 76) (kwd := []) TK.hob_eq
    (by kernel_rfl) (fun s => by kernel_rfl) TK.hrun (by kernel_rfl) (by kernel_rfl) (by kernel_rfl) (by rfl) (by first | assumption | decide +kernel) (by decide +kernel) ⟨rfl, rfl, rfl, rfl, rfl, by decide +kernel⟩ ?hw ?hc
  case hw => w_witness2
  case hc =>
    refine LamX.walk_ofTsE (l := PySem.Challenge.rw_trunkcall_k50_accounts_with_papers) (n := 63) (k := 12) (x := "script") (CX := fun w => L2.CX (PySem.Challenge.rw_trunkcall_k50_accounts_with_papers).prog w) rfl (by decide) (by kernel_rfl) ⟨rfl, by decide, by decide⟩ ?F (fun w H s e s' z => ?E)
    case E => obtain ⟨_, _, _, _, _, _, _, _, _, _, _, _, z⟩ := z; exact z
    case F =>
      intro w mg fa h Y G hmg0
      obtain ⟨K, KX, c⟩ := Y
      have hmg : mg ("law" : PySem.Str) = some (.ref fa) := by
        have e : (HandSHeadRun.topDef (OpenLaw.row PySem.Challenge.rw_trunkcall_k50_accounts_with_papers).prog 76).name = ("law" : PySem.Str) := by kernel_rfl
        rw [← e]
        exact hmg0
      exact ⟨K, KX, TK.law_at KX G hmg c⟩
